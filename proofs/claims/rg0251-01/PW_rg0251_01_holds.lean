import PyProof.Rows.All
import Wide.All
import OpenK.AllK
import Wide.FinOn
import PySem.Challenge.RW_rg0251_01
set_option Elab.async false
set_option maxRecDepth 100000
section
namespace Mine
open PySem PySem.W PySem.Spec PySem.Calls PyProof.Rows
abbrev R0 : OpenRow := PySem.Challenge.rw_rg0251_01.row
abbrev P0 : Program := R0.toRowW.prog
abbrev S (x : String) : Str := Str.ofString x
abbrev noPos : Pos := ⟨0, 0, 0, 0⟩
noncomputable def stAt (i : Nat) : Stmt := P0.main.body.getD i (.Pass noPos)
noncomputable def inCls (i j : Nat) : Stmt := match stAt i with | .ClassDef _ _ _ b .. => b.getD j (.Pass noPos) | s => s
noncomputable def prmOf (s : Stmt) : Arguments := match s with | .FunctionDef _ p .. => p | _ => default
noncomputable def bodOf (s : Stmt) : List Stmt := match s with | .FunctionDef _ _ b .. => b | _ => []
noncomputable def scpOf (s : Stmt) : Scope := match s with | .FunctionDef _ _ _ _ _ _ sc .. => sc | _ => default
noncomputable abbrev fdOf (s : Stmt) (n q : String) (g : Addr) (cl : List (Str × Addr)) (d kd doc m : Value) (an : Option Addr) (c ct : Value) (b : Addr) : FuncData :=
  ⟨S n, S q, prmOf s, .stmts (bodOf s), scpOf s, g, cl, d, kd, doc, m, an, c, ct, b⟩
abbrev en (P : Params) (k : String) (t : Nat) (v : Value) : DictEntry := ⟨PyData.keyHash P (S k), .str (S k) t, v⟩
noncomputable def z0 (P : Params) : Obj := ⟨(.type "dict"), none, (.dict [en P "__name__" 1 (.str (S "builtins") 160), en P "__doc__" 2 (.builtin "builtins.__doc__:str#opaque"), en P "__package__" 3 (.builtin "builtins.__package__:str#opaque"), en P "__loader__" 4 (.builtin "builtins.__loader__:shared#opaque"), en P "__spec__" 5 (.builtin "builtins.__spec__#opaque"), en P "__build_class__" 6 (.builtin "__build_class__"), en P "__import__" 7 (.builtin "__import__"), en P "abs" 8 (.builtin "abs"), en P "all" 9 (.builtin "all"), en P "any" 10 (.builtin "any"), en P "ascii" 11 (.builtin "ascii"), en P "bin" 12 (.builtin "bin"), en P "breakpoint" 13 (.builtin "breakpoint"), en P "callable" 14 (.builtin "callable"), en P "chr" 15 (.builtin "chr"), en P "compile" 16 (.builtin "compile"), en P "delattr" 17 (.builtin "delattr"), en P "dir" 18 (.builtin "dir"), en P "divmod" 19 (.builtin "divmod"), en P "eval" 20 (.builtin "eval"), en P "exec" 21 (.builtin "exec"), en P "format" 22 (.builtin "format"), en P "getattr" 23 (.builtin "getattr"), en P "globals" 24 (.builtin "globals"), en P "hasattr" 25 (.builtin "hasattr"), en P "hash" 26 (.builtin "hash"), en P "hex" 27 (.builtin "hex"), en P "id" 28 (.builtin "id"), en P "input" 29 (.builtin "input"), en P "isinstance" 30 (.builtin "isinstance"), en P "issubclass" 31 (.builtin "issubclass"), en P "iter" 32 (.builtin "iter"), en P "aiter" 33 (.builtin "aiter"), en P "len" 34 (.builtin "len"), en P "locals" 35 (.builtin "locals"), en P "max" 36 (.builtin "max"), en P "min" 37 (.builtin "min"), en P "next" 38 (.builtin "next"), en P "anext" 39 (.builtin "anext"), en P "oct" 40 (.builtin "oct"), en P "ord" 41 (.builtin "ord"), en P "pow" 42 (.builtin "pow"), en P "print" 43 (.builtin "print"), en P "repr" 44 (.builtin "repr"), en P "round" 45 (.builtin "round"), en P "setattr" 46 (.builtin "setattr"), en P "sorted" 47 (.builtin "sorted"), en P "sum" 48 (.builtin "sum"), en P "vars" 49 (.builtin "vars"), en P "None" 50 .none, en P "Ellipsis" 51 .ellipsis, en P "NotImplemented" 52 .notImplemented, en P "False" 53 (.bool false), en P "True" 54 (.bool true), en P "bool" 55 (.type "bool"), en P "memoryview" 56 (.type "memoryview"), en P "bytearray" 57 (.type "bytearray"), en P "bytes" 58 (.type "bytes"), en P "classmethod" 59 (.type "classmethod"), en P "complex" 60 (.type "complex"), en P "dict" 61 (.type "dict"), en P "enumerate" 62 (.type "enumerate"), en P "filter" 63 (.type "filter"), en P "float" 64 (.type "float"), en P "frozenset" 65 (.type "frozenset"), en P "property" 66 (.type "property"), en P "int" 67 (.type "int"), en P "list" 68 (.type "list"), en P "map" 69 (.type "map"), en P "object" 70 (.type "object"), en P "range" 71 (.type "range"), en P "reversed" 72 (.type "reversed"), en P "set" 73 (.type "set"), en P "slice" 74 (.type "slice"), en P "staticmethod" 75 (.type "staticmethod"), en P "str" 76 (.type "str"), en P "super" 77 (.type "super"), en P "tuple" 78 (.type "tuple"), en P "type" 79 (.type "type"), en P "zip" 80 (.type "zip"), en P "__debug__" 81 (.bool true), en P "BaseException" 82 (.type "BaseException"), en P "BaseExceptionGroup" 83 (.type "BaseExceptionGroup"), en P "Exception" 84 (.type "Exception"), en P "GeneratorExit" 85 (.type "GeneratorExit"), en P "KeyboardInterrupt" 86 (.type "KeyboardInterrupt"), en P "SystemExit" 87 (.type "SystemExit"), en P "ArithmeticError" 88 (.type "ArithmeticError"), en P "AssertionError" 89 (.type "AssertionError"), en P "AttributeError" 90 (.type "AttributeError"), en P "BufferError" 91 (.type "BufferError"), en P "EOFError" 92 (.type "EOFError"), en P "ImportError" 93 (.type "ImportError"), en P "LookupError" 94 (.type "LookupError"), en P "MemoryError" 95 (.type "MemoryError"), en P "NameError" 96 (.type "NameError"), en P "OSError" 97 (.type "OSError"), en P "ReferenceError" 98 (.type "ReferenceError"), en P "RuntimeError" 99 (.type "RuntimeError"), en P "StopAsyncIteration" 100 (.type "StopAsyncIteration"), en P "StopIteration" 101 (.type "StopIteration"), en P "SyntaxError" 102 (.type "SyntaxError"), en P "SystemError" 103 (.type "SystemError"), en P "TypeError" 104 (.type "TypeError"), en P "ValueError" 105 (.type "ValueError"), en P "Warning" 106 (.type "Warning"), en P "FloatingPointError" 107 (.type "FloatingPointError"), en P "OverflowError" 108 (.type "OverflowError"), en P "ZeroDivisionError" 109 (.type "ZeroDivisionError"), en P "BytesWarning" 110 (.type "BytesWarning"), en P "DeprecationWarning" 111 (.type "DeprecationWarning"), en P "EncodingWarning" 112 (.type "EncodingWarning"), en P "FutureWarning" 113 (.type "FutureWarning"), en P "ImportWarning" 114 (.type "ImportWarning"), en P "PendingDeprecationWarning" 115 (.type "PendingDeprecationWarning"), en P "ResourceWarning" 116 (.type "ResourceWarning"), en P "RuntimeWarning" 117 (.type "RuntimeWarning"), en P "SyntaxWarning" 118 (.type "SyntaxWarning"), en P "UnicodeWarning" 119 (.type "UnicodeWarning"), en P "UserWarning" 120 (.type "UserWarning"), en P "BlockingIOError" 121 (.type "BlockingIOError"), en P "ChildProcessError" 122 (.type "ChildProcessError"), en P "ConnectionError" 123 (.type "ConnectionError"), en P "FileExistsError" 124 (.type "FileExistsError"), en P "FileNotFoundError" 125 (.type "FileNotFoundError"), en P "InterruptedError" 126 (.type "InterruptedError"), en P "IsADirectoryError" 127 (.type "IsADirectoryError"), en P "NotADirectoryError" 128 (.type "NotADirectoryError"), en P "PermissionError" 129 (.type "PermissionError"), en P "ProcessLookupError" 130 (.type "ProcessLookupError"), en P "TimeoutError" 131 (.type "TimeoutError"), en P "IndentationError" 132 (.type "IndentationError"), en P "_IncompleteInputError" 133 (.type "_IncompleteInputError"), en P "IndexError" 134 (.type "IndexError"), en P "KeyError" 135 (.type "KeyError"), en P "ModuleNotFoundError" 136 (.type "ModuleNotFoundError"), en P "NotImplementedError" 137 (.type "NotImplementedError"), en P "PythonFinalizationError" 138 (.type "PythonFinalizationError"), en P "RecursionError" 139 (.type "RecursionError"), en P "UnboundLocalError" 140 (.type "UnboundLocalError"), en P "UnicodeError" 141 (.type "UnicodeError"), en P "BrokenPipeError" 142 (.type "BrokenPipeError"), en P "ConnectionAbortedError" 143 (.type "ConnectionAbortedError"), en P "ConnectionRefusedError" 144 (.type "ConnectionRefusedError"), en P "ConnectionResetError" 145 (.type "ConnectionResetError"), en P "TabError" 146 (.type "TabError"), en P "UnicodeDecodeError" 147 (.type "UnicodeDecodeError"), en P "UnicodeEncodeError" 148 (.type "UnicodeEncodeError"), en P "UnicodeTranslateError" 149 (.type "UnicodeTranslateError"), en P "ExceptionGroup" 150 (.type "ExceptionGroup"), en P "EnvironmentError" 151 (.type "OSError"), en P "IOError" 152 (.type "OSError"), en P "open" 153 (.builtin "open"), en P "quit" 154 (.builtin "builtins.quit#opaque"), en P "exit" 155 (.builtin "builtins.exit#opaque"), en P "copyright" 156 (.builtin "builtins.copyright#opaque"), en P "credits" 157 (.builtin "builtins.credits#opaque"), en P "license" 158 (.builtin "builtins.license#opaque"), en P "help" 159 (.builtin "builtins.help#opaque")].toArray 159), [].toArray⟩
noncomputable def z1 (P : Params) : Obj := ⟨(.type "dict"), none, (.dict [en P "builtins" 162 (.ref 4), en P "__main__" 163 (.ref 5)].toArray 2), [].toArray⟩
noncomputable def z2 (_ : Params) : Obj := ⟨.none, none, (.dict [].toArray 0), [].toArray⟩
noncomputable def z3 (P : Params) : Obj := ⟨(.type "dict"), none, (.dict [en P "__name__" 165 (.str (S "law_rg0251_01") 532), en P "__doc__" 166 .none, en P "__package__" 167 .none, en P "__loader__" 168 (.builtin "__main__.__loader__#opaque"), en P "__spec__" 169 .none, en P "__annotations__" 170 (.ref 6), en P "__builtins__" 171 (.ref 4), en P "__file__" 173 (.str (S "/claim/cut.py") 172), en P "__cached__" 174 .none, en P "_wall" 193 (.ref 21), en P "INITIAL_PACKETS" 197 (.int 10 196), en P "INITIAL_OCTETS" 199 (.int 14720 198), en P "LEAST_PACKETS" 201 (.int 2 200), en P "LOSS_TOP" 203 (.int 1 202), en P "LOSS_BOTTOM" 205 (.int 2 204), en P "initial_window" 212 (.ref 28), en P "least_window" 219 (.ref 35), en P "NewReno" 339 (.ref 122), en P "BETA_TOP" 343 (.int 7 342), en P "BETA_BOTTOM" 345 (.int 10 344), en P "C_TOP" 347 (.int 2 346), en P "C_BOTTOM" 349 (.int 5 348), en P "SECOND" 351 (.int 1000000 350), en P "FRIENDLY_TOP" 353 (.int 9 352), en P "FRIENDLY_BOTTOM" 355 (.int 17 354), en P "cube_root" 365 (.ref 133), en P "cubic_time" 374 (.ref 140), en P "cubic_window" 386 (.ref 147), en P "Cubic" 531 (.ref 248), en P "_law_take" 541 (.ref 257), en P "_law_grow" 552 (.ref 264), en P "_law_acked" 565 (.ref 271), en P "law" 571 (.ref 276)].toArray 33), [].toArray⟩
noncomputable def z4 (_ : Params) : Obj := ⟨(.type "module"), (some 0), .plain, [].toArray⟩
noncomputable def z5 (_ : Params) : Obj := ⟨(.type "module"), (some 3), .plain, [].toArray⟩
noncomputable def z6 (_ : Params) : Obj := ⟨(.type "dict"), none, (.dict [].toArray 0), [].toArray⟩
noncomputable def z7 (_ : Params) : Obj := ⟨(.type "tuple"), none, (.seq [].toArray 0), [].toArray⟩
noncomputable def z8 (_ : Params) : Obj := ⟨.none, none, (.fields [].toArray), [].toArray⟩
noncomputable def z9 (_ : Params) : Obj := ⟨(.type "code"), none, (.fields [(.str (S "<module>") 176), (.str (S "<module>") 177), (.str (S "/claim/cut.py") 178), (.int 1 0), (.int 0 0), (.int 0 0), (.int 0 0), (.int 0 0), (.ref 7), (.bool false), (.int 175 0), (.ref 8), .none, .none, .none, .none, (.int 179 0), (.int 1 0), (.str (S "/claim/cut.py") 180)].toArray), [].toArray⟩
noncomputable def z10 (_ : Params) : Obj := ⟨(.type "frame"), none, .plain, [(some (.ref 9)), (some (.ref 3)), (some (.ref 3)), none, (some (.str (S "__main__") 164)), none, (some (.ref 0))].toArray⟩
noncomputable def z11 (_ : Params) : Obj := ⟨(.type "tuple"), none, (.seq [].toArray 0), [].toArray⟩
noncomputable def z12 (_ : Params) : Obj := ⟨.none, none, (.fields [(.int 1 0), (.int 0 0), (.ref 20), (.int 10 0), (.int 0 0), (.ref 27), (.int 12 0), (.int 0 0), (.ref 34), (.int 14 0), (.int 0 0), (.ref 41), (.int 77 0), (.int 0 0), (.ref 132), (.int 88 0), (.int 0 0), (.ref 139), (.int 92 0), (.int 0 0), (.ref 146), (.int 96 0), (.int 0 0), (.ref 153), (.int 202 0), (.int 0 0), (.ref 256), (.int 207 0), (.int 0 0), (.ref 263), (.int 221 0), (.int 0 0), (.ref 270), (.int 232 0), (.int 0 0), (.ref 275)].toArray), [].toArray⟩
noncomputable def z13 (_ : Params) : Obj := ⟨(.type "code"), none, (.fields [(.str (S "<module>") 182), (.str (S "<module>") 183), (.str (S "/claim/cut.py") 184), (.int 1 0), (.int 0 0), (.int 0 0), (.int 0 0), (.int 0 0), (.ref 11), (.bool false), (.int 181 0), (.ref 12), .none, .none, .none, .none, (.int 185 0), (.int 1 0), (.str (S "/claim/cut.py") 186)].toArray), [].toArray⟩
noncomputable def z14 (_ : Params) : Obj := ⟨(.type "frame"), none, .plain, [(some (.ref 13)), (some (.ref 3)), (some (.ref 3)), none, (some (.str (S "__main__") 164)), none, (some (.ref 0))].toArray⟩
noncomputable def z15 (_ : Params) : Obj := ⟨(.type "tuple"), none, (.seq [].toArray 0), [].toArray⟩
noncomputable def z16 (_ : Params) : Obj := ⟨.none, none, (.fields [].toArray), [].toArray⟩
noncomputable def z17 (_ : Params) : Obj := ⟨(.type "tuple"), none, (.seq [(.str (S "k") 190)].toArray 0), [].toArray⟩
noncomputable def z18 (_ : Params) : Obj := ⟨(.type "tuple"), none, (.seq [].toArray 0), [].toArray⟩
noncomputable def z19 (_ : Params) : Obj := ⟨.none, none, (.func (fdOf (stAt 0) "_wall" "_wall" 0 [] .none .none .none .none none .none .none 0)), [].toArray⟩
noncomputable def z20 (_ : Params) : Obj := ⟨(.type "code"), none, (.fields [(.str (S "_wall") 187), (.str (S "_wall") 188), (.str (S "/claim/cut.py") 189), (.int 1 0), (.int 1 0), (.int 0 0), (.int 0 0), (.int 3 0), (.ref 15), (.bool true), (.int 181 0), (.ref 16), .none, (.ref 17), (.ref 18), (.ref 19), (.int 191 0), (.int 1 0), (.str (S "/claim/cut.py") 192)].toArray), [].toArray⟩
noncomputable def z21 (_ : Params) : Obj := ⟨(.type "function"), none, (.func (fdOf (stAt 0) "_wall" "_wall" 3 [] .none .none .none (.str (S "__main__") 164) none (.ref 20) .none 0)), [].toArray⟩
noncomputable def z22 (_ : Params) : Obj := ⟨(.type "tuple"), none, (.seq [].toArray 0), [].toArray⟩
noncomputable def z23 (_ : Params) : Obj := ⟨.none, none, (.fields [].toArray), [].toArray⟩
noncomputable def z24 (_ : Params) : Obj := ⟨(.type "tuple"), none, (.seq [(.str (S "datagram") 209)].toArray 0), [].toArray⟩
noncomputable def z25 (_ : Params) : Obj := ⟨(.type "tuple"), none, (.seq [].toArray 0), [].toArray⟩
noncomputable def z26 (_ : Params) : Obj := ⟨.none, none, (.func (fdOf (stAt 7) "initial_window" "initial_window" 0 [] .none .none .none .none none .none .none 0)), [].toArray⟩
noncomputable def z27 (_ : Params) : Obj := ⟨(.type "code"), none, (.fields [(.str (S "initial_window") 206), (.str (S "initial_window") 207), (.str (S "/claim/cut.py") 208), (.int 10 0), (.int 1 0), (.int 0 0), (.int 0 0), (.int 3 0), (.ref 22), (.bool true), (.int 181 0), (.ref 23), .none, (.ref 24), (.ref 25), (.ref 26), (.int 210 0), (.int 10 0), (.str (S "/claim/cut.py") 211)].toArray), [].toArray⟩
noncomputable def z28 (_ : Params) : Obj := ⟨(.type "function"), none, (.func (fdOf (stAt 7) "initial_window" "initial_window" 3 [] .none .none .none (.str (S "quic.newreno") 194) none (.ref 27) .none 0)), [].toArray⟩
noncomputable def z29 (_ : Params) : Obj := ⟨(.type "tuple"), none, (.seq [].toArray 0), [].toArray⟩
noncomputable def z30 (_ : Params) : Obj := ⟨.none, none, (.fields [].toArray), [].toArray⟩
noncomputable def z31 (_ : Params) : Obj := ⟨(.type "tuple"), none, (.seq [(.str (S "datagram") 216)].toArray 0), [].toArray⟩
noncomputable def z32 (_ : Params) : Obj := ⟨(.type "tuple"), none, (.seq [].toArray 0), [].toArray⟩
noncomputable def z33 (_ : Params) : Obj := ⟨.none, none, (.func (fdOf (stAt 8) "least_window" "least_window" 0 [] .none .none .none .none none .none .none 0)), [].toArray⟩
noncomputable def z34 (_ : Params) : Obj := ⟨(.type "code"), none, (.fields [(.str (S "least_window") 213), (.str (S "least_window") 214), (.str (S "/claim/cut.py") 215), (.int 12 0), (.int 1 0), (.int 0 0), (.int 0 0), (.int 3 0), (.ref 29), (.bool true), (.int 181 0), (.ref 30), .none, (.ref 31), (.ref 32), (.ref 33), (.int 217 0), (.int 12 0), (.str (S "/claim/cut.py") 218)].toArray), [].toArray⟩
noncomputable def z35 (_ : Params) : Obj := ⟨(.type "function"), none, (.func (fdOf (stAt 8) "least_window" "least_window" 3 [] .none .none .none (.str (S "quic.newreno") 194) none (.ref 34) .none 0)), [].toArray⟩
noncomputable def z43 (_ : Params) : Obj := ⟨(.type "tuple"), none, (.seq [].toArray 0), [].toArray⟩
noncomputable def z44 (_ : Params) : Obj := ⟨.none, none, (.fields [].toArray), [].toArray⟩
noncomputable def z45 (_ : Params) : Obj := ⟨(.type "tuple"), none, (.seq [(.str (S "self") 235), (.str (S "datagram") 236)].toArray 0), [].toArray⟩
noncomputable def z46 (_ : Params) : Obj := ⟨(.type "tuple"), none, (.seq [].toArray 0), [].toArray⟩
noncomputable def z47 (_ : Params) : Obj := ⟨.none, none, (.func (fdOf (inCls 9 0) "__init__" "NewReno.__init__" 0 [] .none .none .none .none none .none .none 0)), [].toArray⟩
noncomputable def z48 (_ : Params) : Obj := ⟨(.type "code"), none, (.fields [(.str (S "__init__") 232), (.str (S "NewReno.__init__") 233), (.str (S "/claim/cut.py") 234), (.int 16 0), (.int 2 0), (.int 0 0), (.int 0 0), (.int 3 0), (.ref 43), (.bool true), (.int 181 0), (.ref 44), .none, (.ref 45), (.ref 46), (.ref 47), (.int 237 0), (.int 16 0), (.str (S "/claim/cut.py") 238)].toArray), [].toArray⟩
noncomputable def z49 (_ : Params) : Obj := ⟨(.type "function"), none, (.func (fdOf (inCls 9 0) "__init__" "NewReno.__init__" 3 [] .none .none .none (.str (S "quic.newreno") 194) none (.ref 48) .none 0)), [].toArray⟩
noncomputable def z50 (_ : Params) : Obj := ⟨(.type "tuple"), none, (.seq [].toArray 0), [].toArray⟩
noncomputable def z51 (_ : Params) : Obj := ⟨.none, none, (.fields [].toArray), [].toArray⟩
noncomputable def z52 (_ : Params) : Obj := ⟨(.type "tuple"), none, (.seq [(.str (S "self") 243), (.str (S "size") 244)].toArray 0), [].toArray⟩
noncomputable def z53 (_ : Params) : Obj := ⟨(.type "tuple"), none, (.seq [].toArray 0), [].toArray⟩
noncomputable def z54 (_ : Params) : Obj := ⟨.none, none, (.func (fdOf (inCls 9 1) "may_send" "NewReno.may_send" 0 [] .none .none .none .none none .none .none 0)), [].toArray⟩
noncomputable def z55 (_ : Params) : Obj := ⟨(.type "code"), none, (.fields [(.str (S "may_send") 240), (.str (S "NewReno.may_send") 241), (.str (S "/claim/cut.py") 242), (.int 24 0), (.int 2 0), (.int 0 0), (.int 0 0), (.int 3 0), (.ref 50), (.bool true), (.int 181 0), (.ref 51), .none, (.ref 52), (.ref 53), (.ref 54), (.int 245 0), (.int 24 0), (.str (S "/claim/cut.py") 246)].toArray), [].toArray⟩
noncomputable def z56 (_ : Params) : Obj := ⟨(.type "function"), none, (.func (fdOf (inCls 9 1) "may_send" "NewReno.may_send" 3 [] .none .none .none (.str (S "quic.newreno") 194) none (.ref 55) .none 0)), [].toArray⟩
noncomputable def z57 (_ : Params) : Obj := ⟨(.type "tuple"), none, (.seq [].toArray 0), [].toArray⟩
noncomputable def z58 (_ : Params) : Obj := ⟨.none, none, (.fields [].toArray), [].toArray⟩
noncomputable def z59 (_ : Params) : Obj := ⟨(.type "tuple"), none, (.seq [(.str (S "self") 251)].toArray 0), [].toArray⟩
noncomputable def z60 (_ : Params) : Obj := ⟨(.type "tuple"), none, (.seq [].toArray 0), [].toArray⟩
noncomputable def z61 (_ : Params) : Obj := ⟨.none, none, (.func (fdOf (inCls 9 2) "is_slow_start" "NewReno.is_slow_start" 0 [] .none .none .none .none none .none .none 0)), [].toArray⟩
noncomputable def z62 (_ : Params) : Obj := ⟨(.type "code"), none, (.fields [(.str (S "is_slow_start") 248), (.str (S "NewReno.is_slow_start") 249), (.str (S "/claim/cut.py") 250), (.int 27 0), (.int 1 0), (.int 0 0), (.int 0 0), (.int 3 0), (.ref 57), (.bool true), (.int 181 0), (.ref 58), .none, (.ref 59), (.ref 60), (.ref 61), (.int 252 0), (.int 27 0), (.str (S "/claim/cut.py") 253)].toArray), [].toArray⟩
noncomputable def z63 (_ : Params) : Obj := ⟨(.type "function"), none, (.func (fdOf (inCls 9 2) "is_slow_start" "NewReno.is_slow_start" 3 [] .none .none .none (.str (S "quic.newreno") 194) none (.ref 62) .none 0)), [].toArray⟩
noncomputable def z64 (_ : Params) : Obj := ⟨(.type "tuple"), none, (.seq [].toArray 0), [].toArray⟩
noncomputable def z65 (_ : Params) : Obj := ⟨.none, none, (.fields [].toArray), [].toArray⟩
noncomputable def z66 (_ : Params) : Obj := ⟨(.type "tuple"), none, (.seq [(.str (S "self") 258), (.str (S "sent_at") 259)].toArray 0), [].toArray⟩
noncomputable def z67 (_ : Params) : Obj := ⟨(.type "tuple"), none, (.seq [].toArray 0), [].toArray⟩
noncomputable def z68 (_ : Params) : Obj := ⟨.none, none, (.func (fdOf (inCls 9 3) "in_recovery" "NewReno.in_recovery" 0 [] .none .none .none .none none .none .none 0)), [].toArray⟩
noncomputable def z69 (_ : Params) : Obj := ⟨(.type "code"), none, (.fields [(.str (S "in_recovery") 255), (.str (S "NewReno.in_recovery") 256), (.str (S "/claim/cut.py") 257), (.int 30 0), (.int 2 0), (.int 0 0), (.int 0 0), (.int 3 0), (.ref 64), (.bool true), (.int 181 0), (.ref 65), .none, (.ref 66), (.ref 67), (.ref 68), (.int 260 0), (.int 30 0), (.str (S "/claim/cut.py") 261)].toArray), [].toArray⟩
noncomputable def z70 (_ : Params) : Obj := ⟨(.type "function"), none, (.func (fdOf (inCls 9 3) "in_recovery" "NewReno.in_recovery" 3 [] .none .none .none (.str (S "quic.newreno") 194) none (.ref 69) .none 0)), [].toArray⟩
noncomputable def z71 (_ : Params) : Obj := ⟨(.type "tuple"), none, (.seq [].toArray 0), [].toArray⟩
noncomputable def z72 (_ : Params) : Obj := ⟨.none, none, (.fields [].toArray), [].toArray⟩
noncomputable def z73 (_ : Params) : Obj := ⟨(.type "tuple"), none, (.seq [(.str (S "self") 266), (.str (S "size") 267)].toArray 0), [].toArray⟩
noncomputable def z74 (_ : Params) : Obj := ⟨(.type "tuple"), none, (.seq [].toArray 0), [].toArray⟩
noncomputable def z75 (_ : Params) : Obj := ⟨.none, none, (.func (fdOf (inCls 9 4) "on_sent" "NewReno.on_sent" 0 [] .none .none .none .none none .none .none 0)), [].toArray⟩
noncomputable def z76 (_ : Params) : Obj := ⟨(.type "code"), none, (.fields [(.str (S "on_sent") 263), (.str (S "NewReno.on_sent") 264), (.str (S "/claim/cut.py") 265), (.int 33 0), (.int 2 0), (.int 0 0), (.int 0 0), (.int 3 0), (.ref 71), (.bool true), (.int 181 0), (.ref 72), .none, (.ref 73), (.ref 74), (.ref 75), (.int 268 0), (.int 33 0), (.str (S "/claim/cut.py") 269)].toArray), [].toArray⟩
noncomputable def z77 (_ : Params) : Obj := ⟨(.type "function"), none, (.func (fdOf (inCls 9 4) "on_sent" "NewReno.on_sent" 3 [] .none .none .none (.str (S "quic.newreno") 194) none (.ref 76) .none 0)), [].toArray⟩
noncomputable def z78 (_ : Params) : Obj := ⟨(.type "tuple"), none, (.seq [].toArray 0), [].toArray⟩
noncomputable def z79 (_ : Params) : Obj := ⟨.none, none, (.fields [].toArray), [].toArray⟩
noncomputable def z80 (_ : Params) : Obj := ⟨(.type "tuple"), none, (.seq [(.str (S "self") 274), (.str (S "size") 275)].toArray 0), [].toArray⟩
noncomputable def z81 (_ : Params) : Obj := ⟨(.type "tuple"), none, (.seq [].toArray 0), [].toArray⟩
noncomputable def z82 (_ : Params) : Obj := ⟨.none, none, (.func (fdOf (inCls 9 5) "on_discarded" "NewReno.on_discarded" 0 [] .none .none .none .none none .none .none 0)), [].toArray⟩
noncomputable def z83 (_ : Params) : Obj := ⟨(.type "code"), none, (.fields [(.str (S "on_discarded") 271), (.str (S "NewReno.on_discarded") 272), (.str (S "/claim/cut.py") 273), (.int 36 0), (.int 2 0), (.int 0 0), (.int 0 0), (.int 3 0), (.ref 78), (.bool true), (.int 181 0), (.ref 79), .none, (.ref 80), (.ref 81), (.ref 82), (.int 276 0), (.int 36 0), (.str (S "/claim/cut.py") 277)].toArray), [].toArray⟩
noncomputable def z84 (_ : Params) : Obj := ⟨(.type "function"), none, (.func (fdOf (inCls 9 5) "on_discarded" "NewReno.on_discarded" 3 [] .none .none .none (.str (S "quic.newreno") 194) none (.ref 83) .none 0)), [].toArray⟩
noncomputable def z85 (_ : Params) : Obj := ⟨(.type "tuple"), none, (.seq [].toArray 0), [].toArray⟩
noncomputable def z86 (_ : Params) : Obj := ⟨.none, none, (.fields [].toArray), [].toArray⟩
noncomputable def z87 (_ : Params) : Obj := ⟨(.type "tuple"), none, (.seq [(.str (S "self") 282), (.str (S "size") 283), (.str (S "sent_at") 284), (.str (S "is_limited") 285), (.str (S "now") 286), (.str (S "smoothed") 287)].toArray 0), [].toArray⟩
noncomputable def z88 (_ : Params) : Obj := ⟨(.type "tuple"), none, (.seq [].toArray 0), [].toArray⟩
noncomputable def z89 (_ : Params) : Obj := ⟨.none, none, (.func (fdOf (inCls 9 6) "on_acked" "NewReno.on_acked" 0 [] .none .none .none .none none .none .none 0)), [].toArray⟩
noncomputable def z90 (_ : Params) : Obj := ⟨(.type "code"), none, (.fields [(.str (S "on_acked") 279), (.str (S "NewReno.on_acked") 280), (.str (S "/claim/cut.py") 281), (.int 39 0), (.int 6 0), (.int 0 0), (.int 0 0), (.int 3 0), (.ref 85), (.bool true), (.int 181 0), (.ref 86), .none, (.ref 87), (.ref 88), (.ref 89), (.int 288 0), (.int 39 0), (.str (S "/claim/cut.py") 289)].toArray), [].toArray⟩
noncomputable def z91 (_ : Params) : Obj := ⟨(.type "function"), none, (.func (fdOf (inCls 9 6) "on_acked" "NewReno.on_acked" 3 [] .none .none .none (.str (S "quic.newreno") 194) none (.ref 90) .none 0)), [].toArray⟩
noncomputable def z92 (_ : Params) : Obj := ⟨(.type "tuple"), none, (.seq [].toArray 0), [].toArray⟩
noncomputable def z93 (_ : Params) : Obj := ⟨.none, none, (.fields [].toArray), [].toArray⟩
noncomputable def z94 (_ : Params) : Obj := ⟨(.type "tuple"), none, (.seq [(.str (S "self") 294), (.str (S "size") 295), (.str (S "more") 296)].toArray 0), [].toArray⟩
noncomputable def z95 (_ : Params) : Obj := ⟨(.type "tuple"), none, (.seq [].toArray 0), [].toArray⟩
noncomputable def z96 (_ : Params) : Obj := ⟨.none, none, (.func (fdOf (inCls 9 7) "widen" "NewReno.widen" 0 [] .none .none .none .none none .none .none 0)), [].toArray⟩
noncomputable def z97 (_ : Params) : Obj := ⟨(.type "code"), none, (.fields [(.str (S "widen") 291), (.str (S "NewReno.widen") 292), (.str (S "/claim/cut.py") 293), (.int 48 0), (.int 2 0), (.int 0 0), (.int 0 0), (.int 3 0), (.ref 92), (.bool true), (.int 181 0), (.ref 93), .none, (.ref 94), (.ref 95), (.ref 96), (.int 297 0), (.int 48 0), (.str (S "/claim/cut.py") 298)].toArray), [].toArray⟩
noncomputable def z98 (_ : Params) : Obj := ⟨(.type "function"), none, (.func (fdOf (inCls 9 7) "widen" "NewReno.widen" 3 [] .none .none .none (.str (S "quic.newreno") 194) none (.ref 97) .none 0)), [].toArray⟩
noncomputable def z99 (_ : Params) : Obj := ⟨(.type "tuple"), none, (.seq [].toArray 0), [].toArray⟩
noncomputable def z100 (_ : Params) : Obj := ⟨.none, none, (.fields [].toArray), [].toArray⟩
noncomputable def z101 (_ : Params) : Obj := ⟨(.type "tuple"), none, (.seq [(.str (S "self") 303), (.str (S "sent_at") 304), (.str (S "now") 305)].toArray 0), [].toArray⟩
noncomputable def z102 (_ : Params) : Obj := ⟨(.type "tuple"), none, (.seq [].toArray 0), [].toArray⟩
noncomputable def z103 (_ : Params) : Obj := ⟨.none, none, (.func (fdOf (inCls 9 8) "on_congestion" "NewReno.on_congestion" 0 [] .none .none .none .none none .none .none 0)), [].toArray⟩
noncomputable def z104 (_ : Params) : Obj := ⟨(.type "code"), none, (.fields [(.str (S "on_congestion") 300), (.str (S "NewReno.on_congestion") 301), (.str (S "/claim/cut.py") 302), (.int 54 0), (.int 3 0), (.int 0 0), (.int 0 0), (.int 3 0), (.ref 99), (.bool true), (.int 181 0), (.ref 100), .none, (.ref 101), (.ref 102), (.ref 103), (.int 306 0), (.int 54 0), (.str (S "/claim/cut.py") 307)].toArray), [].toArray⟩
noncomputable def z105 (_ : Params) : Obj := ⟨(.type "function"), none, (.func (fdOf (inCls 9 8) "on_congestion" "NewReno.on_congestion" 3 [] .none .none .none (.str (S "quic.newreno") 194) none (.ref 104) .none 0)), [].toArray⟩
noncomputable def z106 (_ : Params) : Obj := ⟨(.type "tuple"), none, (.seq [].toArray 0), [].toArray⟩
noncomputable def z107 (_ : Params) : Obj := ⟨.none, none, (.fields [].toArray), [].toArray⟩
noncomputable def z108 (_ : Params) : Obj := ⟨(.type "tuple"), none, (.seq [(.str (S "self") 312), (.str (S "size") 313), (.str (S "newest") 314), (.str (S "now") 315)].toArray 0), [].toArray⟩
noncomputable def z109 (_ : Params) : Obj := ⟨(.type "tuple"), none, (.seq [].toArray 0), [].toArray⟩
noncomputable def z110 (_ : Params) : Obj := ⟨.none, none, (.func (fdOf (inCls 9 9) "on_lost" "NewReno.on_lost" 0 [] .none .none .none .none none .none .none 0)), [].toArray⟩
noncomputable def z111 (_ : Params) : Obj := ⟨(.type "code"), none, (.fields [(.str (S "on_lost") 309), (.str (S "NewReno.on_lost") 310), (.str (S "/claim/cut.py") 311), (.int 62 0), (.int 4 0), (.int 0 0), (.int 0 0), (.int 3 0), (.ref 106), (.bool true), (.int 181 0), (.ref 107), .none, (.ref 108), (.ref 109), (.ref 110), (.int 316 0), (.int 62 0), (.str (S "/claim/cut.py") 317)].toArray), [].toArray⟩
noncomputable def z112 (_ : Params) : Obj := ⟨(.type "function"), none, (.func (fdOf (inCls 9 9) "on_lost" "NewReno.on_lost" 3 [] .none .none .none (.str (S "quic.newreno") 194) none (.ref 111) .none 0)), [].toArray⟩
noncomputable def z113 (_ : Params) : Obj := ⟨(.type "tuple"), none, (.seq [].toArray 0), [].toArray⟩
noncomputable def z114 (_ : Params) : Obj := ⟨.none, none, (.fields [].toArray), [].toArray⟩
noncomputable def z115 (_ : Params) : Obj := ⟨(.type "tuple"), none, (.seq [(.str (S "self") 322)].toArray 0), [].toArray⟩
noncomputable def z116 (_ : Params) : Obj := ⟨(.type "tuple"), none, (.seq [].toArray 0), [].toArray⟩
noncomputable def z117 (_ : Params) : Obj := ⟨.none, none, (.func (fdOf (inCls 9 10) "on_persistent" "NewReno.on_persistent" 0 [] .none .none .none .none none .none .none 0)), [].toArray⟩
noncomputable def z118 (_ : Params) : Obj := ⟨(.type "code"), none, (.fields [(.str (S "on_persistent") 319), (.str (S "NewReno.on_persistent") 320), (.str (S "/claim/cut.py") 321), (.int 67 0), (.int 1 0), (.int 0 0), (.int 0 0), (.int 3 0), (.ref 113), (.bool true), (.int 181 0), (.ref 114), .none, (.ref 115), (.ref 116), (.ref 117), (.int 323 0), (.int 67 0), (.str (S "/claim/cut.py") 324)].toArray), [].toArray⟩
noncomputable def z119 (_ : Params) : Obj := ⟨(.type "function"), none, (.func (fdOf (inCls 9 10) "on_persistent" "NewReno.on_persistent" 3 [] .none .none .none (.str (S "quic.newreno") 194) none (.ref 118) .none 0)), [].toArray⟩
noncomputable def z120 (_ : Params) : Obj := ⟨(.type "tuple"), none, (.seq [(.str (S "credit") 326), (.str (S "datagram") 327), (.str (S "in_flight") 328), (.str (S "recovery_at") 329), (.str (S "threshold") 330), (.str (S "window") 331)].toArray 0), [].toArray⟩
noncomputable def z121 (P : Params) : Obj := ⟨(.type "dict"), none, (.dict [en P "__module__" 227 (.str (S "quic.newreno") 194), en P "__firstlineno__" 231 (.int 14 230), en P "__init__" 239 (.ref 49), en P "may_send" 247 (.ref 56), en P "is_slow_start" 254 (.ref 63), en P "in_recovery" 262 (.ref 70), en P "on_sent" 270 (.ref 77), en P "on_discarded" 278 (.ref 84), en P "on_acked" 290 (.ref 91), en P "widen" 299 (.ref 98), en P "on_congestion" 308 (.ref 105), en P "on_lost" 318 (.ref 112), en P "on_persistent" 325 (.ref 119), en P "__static_attributes__" 332 (.ref 120), en P "__dict__" 334 (.ref 123), en P "__weakref__" 336 (.ref 124), en P "__doc__" 337 .none].toArray 4), [].toArray⟩
noncomputable def z122 (_ : Params) : Obj := ⟨(.type "type"), none, (.cls ⟨(S "NewReno"), [(.type "object")], [(.ref 122), (.type "object")], 121, (S "NewReno"), true, [], [(.ref 248)], false, none, false⟩), [none, none, (some (.str (S "NewReno") 220)), (some (.str (S "NewReno") 228)), (some (.builtin "object.__new__")), (some (.bool true))].toArray⟩
noncomputable def z123 (_ : Params) : Obj := ⟨(.type "getset_descriptor"), none, (.fields [(.str (S "__dict__") 333), (.ref 122), (.builtin "function.__dict__"), (.builtin "function.__dict__#set")].toArray), [].toArray⟩
noncomputable def z124 (_ : Params) : Obj := ⟨(.type "getset_descriptor"), none, (.fields [(.str (S "__weakref__") 335), (.ref 122), (.builtin "ExceptionGroup.__weakref__"), .none].toArray), [].toArray⟩
noncomputable def z127 (_ : Params) : Obj := ⟨(.type "tuple"), none, (.seq [].toArray 0), [].toArray⟩
noncomputable def z128 (_ : Params) : Obj := ⟨.none, none, (.fields [].toArray), [].toArray⟩
noncomputable def z129 (_ : Params) : Obj := ⟨(.type "tuple"), none, (.seq [(.str (S "n") 359), (.str (S "low") 360), (.str (S "high") 361), (.str (S "middle") 362)].toArray 0), [].toArray⟩
noncomputable def z130 (_ : Params) : Obj := ⟨(.type "tuple"), none, (.seq [].toArray 0), [].toArray⟩
noncomputable def z131 (_ : Params) : Obj := ⟨.none, none, (.func (fdOf (stAt 18) "cube_root" "cube_root" 0 [] .none .none .none .none none .none .none 0)), [].toArray⟩
noncomputable def z132 (_ : Params) : Obj := ⟨(.type "code"), none, (.fields [(.str (S "cube_root") 356), (.str (S "cube_root") 357), (.str (S "/claim/cut.py") 358), (.int 77 0), (.int 1 0), (.int 0 0), (.int 0 0), (.int 3 0), (.ref 127), (.bool true), (.int 181 0), (.ref 128), .none, (.ref 129), (.ref 130), (.ref 131), (.int 363 0), (.int 77 0), (.str (S "/claim/cut.py") 364)].toArray), [].toArray⟩
noncomputable def z133 (_ : Params) : Obj := ⟨(.type "function"), none, (.func (fdOf (stAt 18) "cube_root" "cube_root" 3 [] .none .none .none (.str (S "quic.cubic") 340) none (.ref 132) .none 0)), [].toArray⟩
noncomputable def z134 (_ : Params) : Obj := ⟨(.type "tuple"), none, (.seq [].toArray 0), [].toArray⟩
noncomputable def z135 (_ : Params) : Obj := ⟨.none, none, (.fields [].toArray), [].toArray⟩
noncomputable def z136 (_ : Params) : Obj := ⟨(.type "tuple"), none, (.seq [(.str (S "top_window") 369), (.str (S "window") 370), (.str (S "datagram") 371)].toArray 0), [].toArray⟩
noncomputable def z137 (_ : Params) : Obj := ⟨(.type "tuple"), none, (.seq [].toArray 0), [].toArray⟩
noncomputable def z138 (_ : Params) : Obj := ⟨.none, none, (.func (fdOf (stAt 19) "cubic_time" "cubic_time" 0 [] .none .none .none .none none .none .none 0)), [].toArray⟩
noncomputable def z139 (_ : Params) : Obj := ⟨(.type "code"), none, (.fields [(.str (S "cubic_time") 366), (.str (S "cubic_time") 367), (.str (S "/claim/cut.py") 368), (.int 88 0), (.int 3 0), (.int 0 0), (.int 0 0), (.int 3 0), (.ref 134), (.bool true), (.int 181 0), (.ref 135), .none, (.ref 136), (.ref 137), (.ref 138), (.int 372 0), (.int 88 0), (.str (S "/claim/cut.py") 373)].toArray), [].toArray⟩
noncomputable def z140 (_ : Params) : Obj := ⟨(.type "function"), none, (.func (fdOf (stAt 19) "cubic_time" "cubic_time" 3 [] .none .none .none (.str (S "quic.cubic") 340) none (.ref 139) .none 0)), [].toArray⟩
noncomputable def z141 (_ : Params) : Obj := ⟨(.type "tuple"), none, (.seq [].toArray 0), [].toArray⟩
noncomputable def z142 (_ : Params) : Obj := ⟨.none, none, (.fields [].toArray), [].toArray⟩
noncomputable def z143 (_ : Params) : Obj := ⟨(.type "tuple"), none, (.seq [(.str (S "elapsed") 378), (.str (S "meets_after") 379), (.str (S "top_window") 380), (.str (S "datagram") 381), (.str (S "apart") 382), (.str (S "grown") 383)].toArray 0), [].toArray⟩
noncomputable def z144 (_ : Params) : Obj := ⟨(.type "tuple"), none, (.seq [].toArray 0), [].toArray⟩
noncomputable def z145 (_ : Params) : Obj := ⟨.none, none, (.func (fdOf (stAt 20) "cubic_window" "cubic_window" 0 [] .none .none .none .none none .none .none 0)), [].toArray⟩
noncomputable def z146 (_ : Params) : Obj := ⟨(.type "code"), none, (.fields [(.str (S "cubic_window") 375), (.str (S "cubic_window") 376), (.str (S "/claim/cut.py") 377), (.int 92 0), (.int 4 0), (.int 0 0), (.int 0 0), (.int 3 0), (.ref 141), (.bool true), (.int 181 0), (.ref 142), .none, (.ref 143), (.ref 144), (.ref 145), (.int 384 0), (.int 92 0), (.str (S "/claim/cut.py") 385)].toArray), [].toArray⟩
noncomputable def z147 (_ : Params) : Obj := ⟨(.type "function"), none, (.func (fdOf (stAt 20) "cubic_window" "cubic_window" 3 [] .none .none .none (.str (S "quic.cubic") 340) none (.ref 146) .none 0)), [].toArray⟩
noncomputable def z148 (_ : Params) : Obj := ⟨(.type "tuple"), none, (.seq [(.ref 122)].toArray 0), [].toArray⟩
noncomputable def z155 (_ : Params) : Obj := ⟨(.type "tuple"), none, (.seq [].toArray 0), [].toArray⟩
noncomputable def z156 (_ : Params) : Obj := ⟨.none, none, (.fields [].toArray), [].toArray⟩
noncomputable def z157 (_ : Params) : Obj := ⟨(.type "tuple"), none, (.seq [(.str (S "self") 402), (.str (S "datagram") 403)].toArray 0), [].toArray⟩
noncomputable def z158 (_ : Params) : Obj := ⟨(.type "tuple"), none, (.seq [].toArray 0), [].toArray⟩
noncomputable def z159 (_ : Params) : Obj := ⟨.none, none, (.func (fdOf (inCls 21 0) "__init__" "Cubic.__init__" 0 [] .none .none .none .none none .none .none 0)), [].toArray⟩
noncomputable def z160 (_ : Params) : Obj := ⟨(.type "code"), none, (.fields [(.str (S "__init__") 399), (.str (S "Cubic.__init__") 400), (.str (S "/claim/cut.py") 401), (.int 98 0), (.int 2 0), (.int 0 0), (.int 0 0), (.int 3 0), (.ref 155), (.bool true), (.int 181 0), (.ref 156), .none, (.ref 157), (.ref 158), (.ref 159), (.int 404 0), (.int 98 0), (.str (S "/claim/cut.py") 405)].toArray), [].toArray⟩
noncomputable def z161 (_ : Params) : Obj := ⟨(.type "function"), none, (.func (fdOf (inCls 21 0) "__init__" "Cubic.__init__" 3 [] .none .none .none (.str (S "quic.cubic") 340) none (.ref 160) .none 0)), [].toArray⟩
noncomputable def z162 (_ : Params) : Obj := ⟨(.type "tuple"), none, (.seq [].toArray 0), [].toArray⟩
noncomputable def z163 (_ : Params) : Obj := ⟨.none, none, (.fields [].toArray), [].toArray⟩
noncomputable def z164 (_ : Params) : Obj := ⟨(.type "tuple"), none, (.seq [(.str (S "self") 410), (.str (S "size") 411), (.str (S "sent_at") 412), (.str (S "is_limited") 413), (.str (S "now") 414), (.str (S "smoothed") 415)].toArray 0), [].toArray⟩
noncomputable def z165 (_ : Params) : Obj := ⟨(.type "tuple"), none, (.seq [].toArray 0), [].toArray⟩
noncomputable def z166 (_ : Params) : Obj := ⟨.none, none, (.func (fdOf (inCls 21 1) "on_acked" "Cubic.on_acked" 0 [] .none .none .none .none none .none .none 0)), [].toArray⟩
noncomputable def z167 (_ : Params) : Obj := ⟨(.type "code"), none, (.fields [(.str (S "on_acked") 407), (.str (S "Cubic.on_acked") 408), (.str (S "/claim/cut.py") 409), (.int 110 0), (.int 6 0), (.int 0 0), (.int 0 0), (.int 3 0), (.ref 162), (.bool true), (.int 181 0), (.ref 163), .none, (.ref 164), (.ref 165), (.ref 166), (.int 416 0), (.int 110 0), (.str (S "/claim/cut.py") 417)].toArray), [].toArray⟩
noncomputable def z168 (_ : Params) : Obj := ⟨(.type "function"), none, (.func (fdOf (inCls 21 1) "on_acked" "Cubic.on_acked" 3 [] .none .none .none (.str (S "quic.cubic") 340) none (.ref 167) .none 0)), [].toArray⟩
noncomputable def z169 (_ : Params) : Obj := ⟨(.type "tuple"), none, (.seq [].toArray 0), [].toArray⟩
noncomputable def z170 (_ : Params) : Obj := ⟨.none, none, (.fields [].toArray), [].toArray⟩
noncomputable def z171 (_ : Params) : Obj := ⟨(.type "tuple"), none, (.seq [(.str (S "self") 422), (.str (S "now") 423)].toArray 0), [].toArray⟩
noncomputable def z172 (_ : Params) : Obj := ⟨(.type "tuple"), none, (.seq [].toArray 0), [].toArray⟩
noncomputable def z173 (_ : Params) : Obj := ⟨.none, none, (.func (fdOf (inCls 21 2) "begin_growth" "Cubic.begin_growth" 0 [] .none .none .none .none none .none .none 0)), [].toArray⟩
noncomputable def z174 (_ : Params) : Obj := ⟨(.type "code"), none, (.fields [(.str (S "begin_growth") 419), (.str (S "Cubic.begin_growth") 420), (.str (S "/claim/cut.py") 421), (.int 129 0), (.int 2 0), (.int 0 0), (.int 0 0), (.int 3 0), (.ref 169), (.bool true), (.int 181 0), (.ref 170), .none, (.ref 171), (.ref 172), (.ref 173), (.int 424 0), (.int 129 0), (.str (S "/claim/cut.py") 425)].toArray), [].toArray⟩
noncomputable def z175 (_ : Params) : Obj := ⟨(.type "function"), none, (.func (fdOf (inCls 21 2) "begin_growth" "Cubic.begin_growth" 3 [] .none .none .none (.str (S "quic.cubic") 340) none (.ref 174) .none 0)), [].toArray⟩
noncomputable def z176 (_ : Params) : Obj := ⟨(.type "tuple"), none, (.seq [].toArray 0), [].toArray⟩
noncomputable def z177 (_ : Params) : Obj := ⟨.none, none, (.fields [].toArray), [].toArray⟩
noncomputable def z178 (_ : Params) : Obj := ⟨(.type "tuple"), none, (.seq [(.str (S "self") 430), (.str (S "now") 431)].toArray 0), [].toArray⟩
noncomputable def z179 (_ : Params) : Obj := ⟨(.type "tuple"), none, (.seq [].toArray 0), [].toArray⟩
noncomputable def z180 (_ : Params) : Obj := ⟨.none, none, (.func (fdOf (inCls 21 3) "pause_growth" "Cubic.pause_growth" 0 [] .none .none .none .none none .none .none 0)), [].toArray⟩
noncomputable def z181 (_ : Params) : Obj := ⟨(.type "code"), none, (.fields [(.str (S "pause_growth") 427), (.str (S "Cubic.pause_growth") 428), (.str (S "/claim/cut.py") 429), (.int 136 0), (.int 2 0), (.int 0 0), (.int 0 0), (.int 3 0), (.ref 176), (.bool true), (.int 181 0), (.ref 177), .none, (.ref 178), (.ref 179), (.ref 180), (.int 432 0), (.int 136 0), (.str (S "/claim/cut.py") 433)].toArray), [].toArray⟩
noncomputable def z182 (_ : Params) : Obj := ⟨(.type "function"), none, (.func (fdOf (inCls 21 3) "pause_growth" "Cubic.pause_growth" 3 [] .none .none .none (.str (S "quic.cubic") 340) none (.ref 181) .none 0)), [].toArray⟩
noncomputable def z183 (_ : Params) : Obj := ⟨(.type "tuple"), none, (.seq [].toArray 0), [].toArray⟩
noncomputable def z184 (_ : Params) : Obj := ⟨.none, none, (.fields [].toArray), [].toArray⟩
noncomputable def z185 (_ : Params) : Obj := ⟨(.type "tuple"), none, (.seq [(.str (S "self") 438), (.str (S "now") 439)].toArray 0), [].toArray⟩
noncomputable def z186 (_ : Params) : Obj := ⟨(.type "tuple"), none, (.seq [].toArray 0), [].toArray⟩
noncomputable def z187 (_ : Params) : Obj := ⟨.none, none, (.func (fdOf (inCls 21 4) "resume_growth" "Cubic.resume_growth" 0 [] .none .none .none .none none .none .none 0)), [].toArray⟩
noncomputable def z188 (_ : Params) : Obj := ⟨(.type "code"), none, (.fields [(.str (S "resume_growth") 435), (.str (S "Cubic.resume_growth") 436), (.str (S "/claim/cut.py") 437), (.int 140 0), (.int 2 0), (.int 0 0), (.int 0 0), (.int 3 0), (.ref 183), (.bool true), (.int 181 0), (.ref 184), .none, (.ref 185), (.ref 186), (.ref 187), (.int 440 0), (.int 140 0), (.str (S "/claim/cut.py") 441)].toArray), [].toArray⟩
noncomputable def z189 (_ : Params) : Obj := ⟨(.type "function"), none, (.func (fdOf (inCls 21 4) "resume_growth" "Cubic.resume_growth" 3 [] .none .none .none (.str (S "quic.cubic") 340) none (.ref 188) .none 0)), [].toArray⟩
noncomputable def z190 (_ : Params) : Obj := ⟨(.type "tuple"), none, (.seq [].toArray 0), [].toArray⟩
noncomputable def z191 (_ : Params) : Obj := ⟨.none, none, (.fields [].toArray), [].toArray⟩
noncomputable def z192 (_ : Params) : Obj := ⟨(.type "tuple"), none, (.seq [(.str (S "self") 446), (.str (S "now") 447)].toArray 0), [].toArray⟩
noncomputable def z193 (_ : Params) : Obj := ⟨(.type "tuple"), none, (.seq [].toArray 0), [].toArray⟩
noncomputable def z194 (_ : Params) : Obj := ⟨.none, none, (.func (fdOf (inCls 21 5) "note_empty" "Cubic.note_empty" 0 [] .none .none .none .none none .none .none 0)), [].toArray⟩
noncomputable def z195 (_ : Params) : Obj := ⟨(.type "code"), none, (.fields [(.str (S "note_empty") 443), (.str (S "Cubic.note_empty") 444), (.str (S "/claim/cut.py") 445), (.int 145 0), (.int 2 0), (.int 0 0), (.int 0 0), (.int 3 0), (.ref 190), (.bool true), (.int 181 0), (.ref 191), .none, (.ref 192), (.ref 193), (.ref 194), (.int 448 0), (.int 145 0), (.str (S "/claim/cut.py") 449)].toArray), [].toArray⟩
noncomputable def z196 (_ : Params) : Obj := ⟨(.type "function"), none, (.func (fdOf (inCls 21 5) "note_empty" "Cubic.note_empty" 3 [] .none .none .none (.str (S "quic.cubic") 340) none (.ref 195) .none 0)), [].toArray⟩
noncomputable def z197 (_ : Params) : Obj := ⟨(.type "tuple"), none, (.seq [].toArray 0), [].toArray⟩
noncomputable def z198 (_ : Params) : Obj := ⟨.none, none, (.fields [].toArray), [].toArray⟩
noncomputable def z199 (_ : Params) : Obj := ⟨(.type "tuple"), none, (.seq [(.str (S "self") 454), (.str (S "sent_at") 455)].toArray 0), [].toArray⟩
noncomputable def z200 (_ : Params) : Obj := ⟨(.type "tuple"), none, (.seq [].toArray 0), [].toArray⟩
noncomputable def z201 (_ : Params) : Obj := ⟨.none, none, (.func (fdOf (inCls 21 6) "leave_out_empty" "Cubic.leave_out_empty" 0 [] .none .none .none .none none .none .none 0)), [].toArray⟩
noncomputable def z202 (_ : Params) : Obj := ⟨(.type "code"), none, (.fields [(.str (S "leave_out_empty") 451), (.str (S "Cubic.leave_out_empty") 452), (.str (S "/claim/cut.py") 453), (.int 149 0), (.int 2 0), (.int 0 0), (.int 0 0), (.int 3 0), (.ref 197), (.bool true), (.int 181 0), (.ref 198), .none, (.ref 199), (.ref 200), (.ref 201), (.int 456 0), (.int 149 0), (.str (S "/claim/cut.py") 457)].toArray), [].toArray⟩
noncomputable def z203 (_ : Params) : Obj := ⟨(.type "function"), none, (.func (fdOf (inCls 21 6) "leave_out_empty" "Cubic.leave_out_empty" 3 [] .none .none .none (.str (S "quic.cubic") 340) none (.ref 202) .none 0)), [].toArray⟩
noncomputable def z204 (_ : Params) : Obj := ⟨(.type "tuple"), none, (.seq [].toArray 0), [].toArray⟩
noncomputable def z205 (_ : Params) : Obj := ⟨.none, none, (.fields [].toArray), [].toArray⟩
noncomputable def z206 (_ : Params) : Obj := ⟨(.type "tuple"), none, (.seq [(.str (S "self") 462), (.str (S "size") 463), (.str (S "share") 464), (.str (S "more") 465)].toArray 0), [].toArray⟩
noncomputable def z207 (_ : Params) : Obj := ⟨(.type "tuple"), none, (.seq [].toArray 0), [].toArray⟩
noncomputable def z208 (_ : Params) : Obj := ⟨.none, none, (.func (fdOf (inCls 21 7) "grow_friendly" "Cubic.grow_friendly" 0 [] .none .none .none .none none .none .none 0)), [].toArray⟩
noncomputable def z209 (_ : Params) : Obj := ⟨(.type "code"), none, (.fields [(.str (S "grow_friendly") 459), (.str (S "Cubic.grow_friendly") 460), (.str (S "/claim/cut.py") 461), (.int 155 0), (.int 2 0), (.int 0 0), (.int 0 0), (.int 3 0), (.ref 204), (.bool true), (.int 181 0), (.ref 205), .none, (.ref 206), (.ref 207), (.ref 208), (.int 466 0), (.int 155 0), (.str (S "/claim/cut.py") 467)].toArray), [].toArray⟩
noncomputable def z210 (_ : Params) : Obj := ⟨(.type "function"), none, (.func (fdOf (inCls 21 7) "grow_friendly" "Cubic.grow_friendly" 3 [] .none .none .none (.str (S "quic.cubic") 340) none (.ref 209) .none 0)), [].toArray⟩
noncomputable def z211 (_ : Params) : Obj := ⟨(.type "tuple"), none, (.seq [].toArray 0), [].toArray⟩
noncomputable def z212 (_ : Params) : Obj := ⟨.none, none, (.fields [].toArray), [].toArray⟩
noncomputable def z213 (_ : Params) : Obj := ⟨(.type "tuple"), none, (.seq [(.str (S "self") 472), (.str (S "size") 473), (.str (S "elapsed") 474), (.str (S "smoothed") 475), (.str (S "goal") 476), (.str (S "more") 477)].toArray 0), [].toArray⟩
noncomputable def z214 (_ : Params) : Obj := ⟨(.type "tuple"), none, (.seq [].toArray 0), [].toArray⟩
noncomputable def z215 (_ : Params) : Obj := ⟨.none, none, (.func (fdOf (inCls 21 8) "grow_cubic" "Cubic.grow_cubic" 0 [] .none .none .none .none none .none .none 0)), [].toArray⟩
noncomputable def z216 (_ : Params) : Obj := ⟨(.type "code"), none, (.fields [(.str (S "grow_cubic") 469), (.str (S "Cubic.grow_cubic") 470), (.str (S "/claim/cut.py") 471), (.int 162 0), (.int 4 0), (.int 0 0), (.int 0 0), (.int 3 0), (.ref 211), (.bool true), (.int 181 0), (.ref 212), .none, (.ref 213), (.ref 214), (.ref 215), (.int 478 0), (.int 162 0), (.str (S "/claim/cut.py") 479)].toArray), [].toArray⟩
noncomputable def z217 (_ : Params) : Obj := ⟨(.type "function"), none, (.func (fdOf (inCls 21 8) "grow_cubic" "Cubic.grow_cubic" 3 [] .none .none .none (.str (S "quic.cubic") 340) none (.ref 216) .none 0)), [].toArray⟩
noncomputable def z218 (_ : Params) : Obj := ⟨(.type "tuple"), none, (.seq [].toArray 0), [].toArray⟩
noncomputable def z219 (_ : Params) : Obj := ⟨.none, none, (.fields [].toArray), [].toArray⟩
noncomputable def z220 (_ : Params) : Obj := ⟨(.type "tuple"), none, (.seq [(.str (S "self") 484), (.str (S "size") 485)].toArray 0), [].toArray⟩
noncomputable def z221 (_ : Params) : Obj := ⟨(.type "tuple"), none, (.seq [].toArray 0), [].toArray⟩
noncomputable def z222 (_ : Params) : Obj := ⟨.none, none, (.func (fdOf (inCls 21 9) "on_discarded" "Cubic.on_discarded" 0 [] .none .none .none .none none .none .none 0)), [].toArray⟩
noncomputable def z223 (_ : Params) : Obj := ⟨(.type "code"), none, (.fields [(.str (S "on_discarded") 481), (.str (S "Cubic.on_discarded") 482), (.str (S "/claim/cut.py") 483), (.int 173 0), (.int 2 0), (.int 0 0), (.int 0 0), (.int 3 0), (.ref 218), (.bool true), (.int 181 0), (.ref 219), .none, (.ref 220), (.ref 221), (.ref 222), (.int 486 0), (.int 173 0), (.str (S "/claim/cut.py") 487)].toArray), [].toArray⟩
noncomputable def z224 (_ : Params) : Obj := ⟨(.type "function"), none, (.func (fdOf (inCls 21 9) "on_discarded" "Cubic.on_discarded" 3 [] .none .none .none (.str (S "quic.cubic") 340) none (.ref 223) .none 0)), [].toArray⟩
noncomputable def z225 (_ : Params) : Obj := ⟨(.type "tuple"), none, (.seq [].toArray 0), [].toArray⟩
noncomputable def z226 (_ : Params) : Obj := ⟨.none, none, (.fields [].toArray), [].toArray⟩
noncomputable def z227 (_ : Params) : Obj := ⟨(.type "tuple"), none, (.seq [(.str (S "self") 492), (.str (S "size") 493), (.str (S "newest") 494), (.str (S "now") 495)].toArray 0), [].toArray⟩
noncomputable def z228 (_ : Params) : Obj := ⟨(.type "tuple"), none, (.seq [].toArray 0), [].toArray⟩
noncomputable def z229 (_ : Params) : Obj := ⟨.none, none, (.func (fdOf (inCls 21 10) "on_lost" "Cubic.on_lost" 0 [] .none .none .none .none none .none .none 0)), [].toArray⟩
noncomputable def z230 (_ : Params) : Obj := ⟨(.type "code"), none, (.fields [(.str (S "on_lost") 489), (.str (S "Cubic.on_lost") 490), (.str (S "/claim/cut.py") 491), (.int 178 0), (.int 4 0), (.int 0 0), (.int 0 0), (.int 3 0), (.ref 225), (.bool true), (.int 181 0), (.ref 226), .none, (.ref 227), (.ref 228), (.ref 229), (.int 496 0), (.int 178 0), (.str (S "/claim/cut.py") 497)].toArray), [].toArray⟩
noncomputable def z231 (_ : Params) : Obj := ⟨(.type "function"), none, (.func (fdOf (inCls 21 10) "on_lost" "Cubic.on_lost" 3 [] .none .none .none (.str (S "quic.cubic") 340) none (.ref 230) .none 0)), [].toArray⟩
noncomputable def z232 (_ : Params) : Obj := ⟨(.type "tuple"), none, (.seq [].toArray 0), [].toArray⟩
noncomputable def z233 (_ : Params) : Obj := ⟨.none, none, (.fields [].toArray), [].toArray⟩
noncomputable def z234 (_ : Params) : Obj := ⟨(.type "tuple"), none, (.seq [(.str (S "self") 502), (.str (S "sent_at") 503), (.str (S "now") 504)].toArray 0), [].toArray⟩
noncomputable def z235 (_ : Params) : Obj := ⟨(.type "tuple"), none, (.seq [].toArray 0), [].toArray⟩
noncomputable def z236 (_ : Params) : Obj := ⟨.none, none, (.func (fdOf (inCls 21 11) "on_congestion" "Cubic.on_congestion" 0 [] .none .none .none .none none .none .none 0)), [].toArray⟩
noncomputable def z237 (_ : Params) : Obj := ⟨(.type "code"), none, (.fields [(.str (S "on_congestion") 499), (.str (S "Cubic.on_congestion") 500), (.str (S "/claim/cut.py") 501), (.int 184 0), (.int 3 0), (.int 0 0), (.int 0 0), (.int 3 0), (.ref 232), (.bool true), (.int 181 0), (.ref 233), .none, (.ref 234), (.ref 235), (.ref 236), (.int 505 0), (.int 184 0), (.str (S "/claim/cut.py") 506)].toArray), [].toArray⟩
noncomputable def z238 (_ : Params) : Obj := ⟨(.type "function"), none, (.func (fdOf (inCls 21 11) "on_congestion" "Cubic.on_congestion" 3 [] .none .none .none (.str (S "quic.cubic") 340) none (.ref 237) .none 0)), [].toArray⟩
noncomputable def z239 (_ : Params) : Obj := ⟨(.type "tuple"), none, (.seq [].toArray 0), [].toArray⟩
noncomputable def z240 (_ : Params) : Obj := ⟨.none, none, (.fields [].toArray), [].toArray⟩
noncomputable def z241 (_ : Params) : Obj := ⟨(.type "tuple"), none, (.seq [(.str (S "self") 511)].toArray 0), [].toArray⟩
noncomputable def z242 (_ : Params) : Obj := ⟨(.type "tuple"), none, (.seq [].toArray 0), [].toArray⟩
noncomputable def z243 (_ : Params) : Obj := ⟨.none, none, (.func (fdOf (inCls 21 12) "on_persistent" "Cubic.on_persistent" 0 [] .none .none .none .none none .none .none 0)), [].toArray⟩
noncomputable def z244 (_ : Params) : Obj := ⟨(.type "code"), none, (.fields [(.str (S "on_persistent") 508), (.str (S "Cubic.on_persistent") 509), (.str (S "/claim/cut.py") 510), (.int 199 0), (.int 1 0), (.int 0 0), (.int 0 0), (.int 3 0), (.ref 239), (.bool true), (.int 181 0), (.ref 240), .none, (.ref 241), (.ref 242), (.ref 243), (.int 512 0), (.int 199 0), (.str (S "/claim/cut.py") 513)].toArray), [].toArray⟩
noncomputable def z245 (_ : Params) : Obj := ⟨(.type "function"), none, (.func (fdOf (inCls 21 12) "on_persistent" "Cubic.on_persistent" 3 [] .none .none .none (.str (S "quic.cubic") 340) none (.ref 244) .none 0)), [].toArray⟩
noncomputable def z246 (_ : Params) : Obj := ⟨(.type "tuple"), none, (.seq [(.str (S "begun_at") 515), (.str (S "credit") 516), (.str (S "empty_since") 517), (.str (S "friendly") 518), (.str (S "friendly_credit") 519), (.str (S "idle_since") 520), (.str (S "meets_after") 521), (.str (S "prior_window") 522), (.str (S "recovery_at") 523), (.str (S "seen_at") 524), (.str (S "threshold") 525), (.str (S "top_window") 526), (.str (S "window") 527)].toArray 0), [].toArray⟩
noncomputable def z247 (P : Params) : Obj := ⟨(.type "dict"), none, (.dict [en P "__module__" 394 (.str (S "quic.cubic") 340), en P "__firstlineno__" 398 (.int 96 397), en P "__init__" 406 (.ref 161), en P "on_acked" 418 (.ref 168), en P "begin_growth" 426 (.ref 175), en P "pause_growth" 434 (.ref 182), en P "resume_growth" 442 (.ref 189), en P "note_empty" 450 (.ref 196), en P "leave_out_empty" 458 (.ref 203), en P "grow_friendly" 468 (.ref 210), en P "grow_cubic" 480 (.ref 217), en P "on_discarded" 488 (.ref 224), en P "on_lost" 498 (.ref 231), en P "on_congestion" 507 (.ref 238), en P "on_persistent" 514 (.ref 245), en P "__static_attributes__" 528 (.ref 246), en P "__doc__" 529 .none].toArray 2), [].toArray⟩
noncomputable def z248 (_ : Params) : Obj := ⟨(.type "type"), none, (.cls ⟨(S "Cubic"), [(.ref 122)], [(.ref 248), (.ref 122), (.type "object")], 247, (S "Cubic"), true, [], [], false, none, false⟩), [(some (.ref 148)), none, (some (.str (S "Cubic") 387)), (some (.str (S "Cubic") 395)), (some (.builtin "object.__new__")), (some (.bool true))].toArray⟩
noncomputable def z251 (_ : Params) : Obj := ⟨(.type "tuple"), none, (.seq [].toArray 0), [].toArray⟩
noncomputable def z252 (_ : Params) : Obj := ⟨.none, none, (.fields [].toArray), [].toArray⟩
noncomputable def z253 (_ : Params) : Obj := ⟨(.type "tuple"), none, (.seq [(.str (S "box") 537), (.str (S "many") 538)].toArray 0), [].toArray⟩
noncomputable def z254 (_ : Params) : Obj := ⟨(.type "tuple"), none, (.seq [].toArray 0), [].toArray⟩
noncomputable def z255 (_ : Params) : Obj := ⟨.none, none, (.func (fdOf (stAt 23) "_law_take" "_law_take" 0 [] .none .none .none .none none .none .none 0)), [].toArray⟩
noncomputable def z256 (_ : Params) : Obj := ⟨(.type "code"), none, (.fields [(.str (S "_law_take") 534), (.str (S "_law_take") 535), (.str (S "/claim/cut.py") 536), (.int 202 0), (.int 2 0), (.int 0 0), (.int 0 0), (.int 3 0), (.ref 251), (.bool true), (.int 181 0), (.ref 252), .none, (.ref 253), (.ref 254), (.ref 255), (.int 539 0), (.int 202 0), (.str (S "/claim/cut.py") 540)].toArray), [].toArray⟩
noncomputable def z257 (_ : Params) : Obj := ⟨(.type "function"), none, (.func (fdOf (stAt 23) "_law_take" "_law_take" 3 [] .none .none .none (.str (S "law_rg0251_01") 532) none (.ref 256) .none 0)), [].toArray⟩
noncomputable def z258 (_ : Params) : Obj := ⟨(.type "tuple"), none, (.seq [].toArray 0), [].toArray⟩
noncomputable def z259 (_ : Params) : Obj := ⟨.none, none, (.fields [].toArray), [].toArray⟩
noncomputable def z260 (_ : Params) : Obj := ⟨(.type "tuple"), none, (.seq [(.str (S "world") 545), (.str (S "size") 546), (.str (S "smoothed") 547), (.str (S "before") 548), (.str (S "goal") 549)].toArray 0), [].toArray⟩
noncomputable def z261 (_ : Params) : Obj := ⟨(.type "tuple"), none, (.seq [].toArray 0), [].toArray⟩
noncomputable def z262 (_ : Params) : Obj := ⟨.none, none, (.func (fdOf (stAt 24) "_law_grow" "_law_grow" 0 [] .none .none .none .none none .none .none 0)), [].toArray⟩
noncomputable def z263 (_ : Params) : Obj := ⟨(.type "code"), none, (.fields [(.str (S "_law_grow") 542), (.str (S "_law_grow") 543), (.str (S "/claim/cut.py") 544), (.int 207 0), (.int 3 0), (.int 0 0), (.int 0 0), (.int 3 0), (.ref 258), (.bool true), (.int 181 0), (.ref 259), .none, (.ref 260), (.ref 261), (.ref 262), (.int 550 0), (.int 207 0), (.str (S "/claim/cut.py") 551)].toArray), [].toArray⟩
noncomputable def z264 (_ : Params) : Obj := ⟨(.type "function"), none, (.func (fdOf (stAt 24) "_law_grow" "_law_grow" 3 [] .none .none .none (.str (S "law_rg0251_01") 532) none (.ref 263) .none 0)), [].toArray⟩
noncomputable def z265 (_ : Params) : Obj := ⟨(.type "tuple"), none, (.seq [].toArray 0), [].toArray⟩
noncomputable def z266 (_ : Params) : Obj := ⟨.none, none, (.fields [].toArray), [].toArray⟩
noncomputable def z267 (_ : Params) : Obj := ⟨(.type "tuple"), none, (.seq [(.str (S "box") 556), (.str (S "world") 557), (.str (S "sender") 558), (.str (S "sent_at") 559), (.str (S "size") 560), (.str (S "is_limited") 561), (.str (S "smoothed") 562)].toArray 0), [].toArray⟩
noncomputable def z268 (_ : Params) : Obj := ⟨(.type "tuple"), none, (.seq [].toArray 0), [].toArray⟩
noncomputable def z269 (_ : Params) : Obj := ⟨.none, none, (.func (fdOf (stAt 25) "_law_acked" "_law_acked" 0 [] .none .none .none .none none .none .none 0)), [].toArray⟩
noncomputable def z270 (_ : Params) : Obj := ⟨(.type "code"), none, (.fields [(.str (S "_law_acked") 553), (.str (S "_law_acked") 554), (.str (S "/claim/cut.py") 555), (.int 221 0), (.int 3 0), (.int 0 0), (.int 0 0), (.int 3 0), (.ref 265), (.bool true), (.int 181 0), (.ref 266), .none, (.ref 267), (.ref 268), (.ref 269), (.int 563 0), (.int 221 0), (.str (S "/claim/cut.py") 564)].toArray), [].toArray⟩
noncomputable def z271 (_ : Params) : Obj := ⟨(.type "function"), none, (.func (fdOf (stAt 25) "_law_acked" "_law_acked" 3 [] .none .none .none (.str (S "law_rg0251_01") 532) none (.ref 270) .none 0)), [].toArray⟩
noncomputable def z272 (_ : Params) : Obj := ⟨(.type "tuple"), none, (.seq [].toArray 0), [].toArray⟩
noncomputable def z273 (_ : Params) : Obj := ⟨.none, none, (.fields [].toArray), [].toArray⟩
noncomputable def z274 (_ : Params) : Obj := ⟨.none, none, (.func (fdOf (stAt 26) "law" "law" 0 [] .none .none .none .none none .none .none 0)), [].toArray⟩
noncomputable def z275 (_ : Params) : Obj := ⟨(.type "code"), none, (.fields [(.str (S "law") 566), (.str (S "law") 567), (.str (S "/claim/cut.py") 568), (.int 232 0), (.int 1 0), (.int 0 0), (.int 0 0), (.int 3 0), (.ref 272), (.bool true), (.int 181 0), (.ref 273), .none, .none, .none, (.ref 274), (.int 569 0), (.int 232 0), (.str (S "/claim/cut.py") 570)].toArray), [].toArray⟩
noncomputable def z276 (_ : Params) : Obj := ⟨(.type "function"), none, (.func (fdOf (stAt 26) "law" "law" 3 [] .none .none .none (.str (S "law_rg0251_01") 532) none (.ref 275) .none 0)), [].toArray⟩
noncomputable def Kx (P : Params) : Frag := [(0, z0 P), (1, z1 P), (2, z2 P), (3, z3 P), (4, z4 P), (5, z5 P), (6, z6 P), (7, z7 P), (8, z8 P), (9, z9 P), (10, z10 P), (11, z11 P), (12, z12 P), (13, z13 P), (14, z14 P), (15, z15 P), (16, z16 P), (17, z17 P), (18, z18 P), (19, z19 P), (20, z20 P), (21, z21 P), (22, z22 P), (23, z23 P), (24, z24 P), (25, z25 P), (26, z26 P), (27, z27 P), (28, z28 P), (29, z29 P), (30, z30 P), (31, z31 P), (32, z32 P), (33, z33 P), (34, z34 P), (35, z35 P), (43, z43 P), (44, z44 P), (45, z45 P), (46, z46 P), (47, z47 P), (48, z48 P), (49, z49 P), (50, z50 P), (51, z51 P), (52, z52 P), (53, z53 P), (54, z54 P), (55, z55 P), (56, z56 P), (57, z57 P), (58, z58 P), (59, z59 P), (60, z60 P), (61, z61 P), (62, z62 P), (63, z63 P), (64, z64 P), (65, z65 P), (66, z66 P), (67, z67 P), (68, z68 P), (69, z69 P), (70, z70 P), (71, z71 P), (72, z72 P), (73, z73 P), (74, z74 P), (75, z75 P), (76, z76 P), (77, z77 P), (78, z78 P), (79, z79 P), (80, z80 P), (81, z81 P), (82, z82 P), (83, z83 P), (84, z84 P), (85, z85 P), (86, z86 P), (87, z87 P), (88, z88 P), (89, z89 P), (90, z90 P), (91, z91 P), (92, z92 P), (93, z93 P), (94, z94 P), (95, z95 P), (96, z96 P), (97, z97 P), (98, z98 P), (99, z99 P), (100, z100 P), (101, z101 P), (102, z102 P), (103, z103 P), (104, z104 P), (105, z105 P), (106, z106 P), (107, z107 P), (108, z108 P), (109, z109 P), (110, z110 P), (111, z111 P), (112, z112 P), (113, z113 P), (114, z114 P), (115, z115 P), (116, z116 P), (117, z117 P), (118, z118 P), (119, z119 P), (120, z120 P), (121, z121 P), (122, z122 P), (123, z123 P), (124, z124 P), (127, z127 P), (128, z128 P), (129, z129 P), (130, z130 P), (131, z131 P), (132, z132 P), (133, z133 P), (134, z134 P), (135, z135 P), (136, z136 P), (137, z137 P), (138, z138 P), (139, z139 P), (140, z140 P), (141, z141 P), (142, z142 P), (143, z143 P), (144, z144 P), (145, z145 P), (146, z146 P), (147, z147 P), (148, z148 P), (155, z155 P), (156, z156 P), (157, z157 P), (158, z158 P), (159, z159 P), (160, z160 P), (161, z161 P), (162, z162 P), (163, z163 P), (164, z164 P), (165, z165 P), (166, z166 P), (167, z167 P), (168, z168 P), (169, z169 P), (170, z170 P), (171, z171 P), (172, z172 P), (173, z173 P), (174, z174 P), (175, z175 P), (176, z176 P), (177, z177 P), (178, z178 P), (179, z179 P), (180, z180 P), (181, z181 P), (182, z182 P), (183, z183 P), (184, z184 P), (185, z185 P), (186, z186 P), (187, z187 P), (188, z188 P), (189, z189 P), (190, z190 P), (191, z191 P), (192, z192 P), (193, z193 P), (194, z194 P), (195, z195 P), (196, z196 P), (197, z197 P), (198, z198 P), (199, z199 P), (200, z200 P), (201, z201 P), (202, z202 P), (203, z203 P), (204, z204 P), (205, z205 P), (206, z206 P), (207, z207 P), (208, z208 P), (209, z209 P), (210, z210 P), (211, z211 P), (212, z212 P), (213, z213 P), (214, z214 P), (215, z215 P), (216, z216 P), (217, z217 P), (218, z218 P), (219, z219 P), (220, z220 P), (221, z221 P), (222, z222 P), (223, z223 P), (224, z224 P), (225, z225 P), (226, z226 P), (227, z227 P), (228, z228 P), (229, z229 P), (230, z230 P), (231, z231 P), (232, z232 P), (233, z233 P), (234, z234 P), (235, z235 P), (236, z236 P), (237, z237 P), (238, z238 P), (239, z239 P), (240, z240 P), (241, z241 P), (242, z242 P), (243, z243 P), (244, z244 P), (245, z245 P), (246, z246 P), (247, z247 P), (248, z248 P), (251, z251 P), (252, z252 P), (253, z253 P), (254, z254 P), (255, z255 P), (256, z256 P), (257, z257 P), (258, z258 P), (259, z259 P), (260, z260 P), (261, z261 P), (262, z262 P), (263, z263 P), (264, z264 P), (265, z265 P), (266, z266 P), (267, z267 P), (268, z268 P), (269, z269 P), (270, z270 P), (271, z271 P), (272, z272 P), (273, z273 P), (274, z274 P), (275, z275 P), (276, z276 P)]
noncomputable def kAs : List Addr := [0, 1, 2, 3, 4, 5, 6, 7, 8, 9, 10, 11, 12, 13, 14, 15, 16, 17, 18, 19, 20, 21, 22, 23, 24, 25, 26, 27, 28, 29, 30, 31, 32, 33, 34, 35, 43, 44, 45, 46, 47, 48, 49, 50, 51, 52, 53, 54, 55, 56, 57, 58, 59, 60, 61, 62, 63, 64, 65, 66, 67, 68, 69, 70, 71, 72, 73, 74, 75, 76, 77, 78, 79, 80, 81, 82, 83, 84, 85, 86, 87, 88, 89, 90, 91, 92, 93, 94, 95, 96, 97, 98, 99, 100, 101, 102, 103, 104, 105, 106, 107, 108, 109, 110, 111, 112, 113, 114, 115, 116, 117, 118, 119, 120, 121, 122, 123, 124, 127, 128, 129, 130, 131, 132, 133, 134, 135, 136, 137, 138, 139, 140, 141, 142, 143, 144, 145, 146, 147, 148, 155, 156, 157, 158, 159, 160, 161, 162, 163, 164, 165, 166, 167, 168, 169, 170, 171, 172, 173, 174, 175, 176, 177, 178, 179, 180, 181, 182, 183, 184, 185, 186, 187, 188, 189, 190, 191, 192, 193, 194, 195, 196, 197, 198, 199, 200, 201, 202, 203, 204, 205, 206, 207, 208, 209, 210, 211, 212, 213, 214, 215, 216, 217, 218, 219, 220, 221, 222, 223, 224, 225, 226, 227, 228, 229, 230, 231, 232, 233, 234, 235, 236, 237, 238, 239, 240, 241, 242, 243, 244, 245, 246, 247, 248, 251, 252, 253, 254, 255, 256, 257, 258, 259, 260, 261, 262, 263, 264, 265, 266, 267, 268, 269, 270, 271, 272, 273, 274, 275, 276]

end Mine
end
section
namespace Mine
open PySem PySem.W PySem.Spec PySem.Calls PyProof.Rows

abbrev Led := List (Addr × Obj)

inductive BI where
  | len | abs | max | min
def BI.id : BI → String
  | .len => "len" | .abs => "abs" | .max => "max" | .min => "min"
inductive V where
  | int (i : Int) | bool (b : Bool) | none | str (x : Str) | ref (i : Nat) | pair (a b : Int) | kref (a : Nat) | bi (b : BI)

inductive O where
  | inst (C d : Nat) | attrs (es : List (Str × V)) | dict (es : List (Str × V)) | list (vs : List V) | ints (ns : List Int) | pairs (ps : List (Int × Int))

inductive Fl where
  | next | ret (v : V)

inductive F2 {α β : Type} (R : α → β → Prop) : List α → List β → Prop
  | nil : F2 R [] []
  | cons {a b l m} : R a b → F2 R l m → F2 R (a :: l) (b :: m)

namespace F2
variable {α β : Type} {R S : α → β → Prop} {l : List α} {m : List β}
theorem mono (h : ∀ a b, R a b → S a b) (x : F2 R l m) : F2 S l m := by
  induction x with
  | nil => exact .nil
  | cons r _ ih => exact .cons (h _ _ r) ih
theorem length (x : F2 R l m) : l.length = m.length := by
  induction x with
  | nil => rfl
  | cons _ _ ih => simp [ih]
theorem get (x : F2 R l m) : ∀ {i : Nat} {a : α}, l[i]? = some a → ∃ b, m[i]? = some b ∧ R a b := by
  induction x with
  | nil => intro i a h; simp at h
  | cons r _ ih =>
    intro i a h
    cases i with
    | zero => simp at h; subst h; exact ⟨_, by simp, r⟩
    | succ i => simp at h ⊢; exact ih h
theorem set (x : F2 R l m) : ∀ {i : Nat} {a : α} {b : β}, R a b → F2 R (l.set i a) (m.set i b) := by
  induction x with
  | nil => intro i a b _; exact .nil
  | cons r t ih =>
    intro i a b h
    cases i with
    | zero => exact .cons h t
    | succ i => exact .cons r (ih h)
theorem append {l' : List α} {m' : List β} (x : F2 R l m) (y : F2 R l' m') : F2 R (l ++ l') (m ++ m') := by
  induction x with
  | nil => exact y
  | cons r _ ih => exact .cons r ih
theorem dropLast (x : F2 R l m) : F2 R l.dropLast m.dropLast := by
  induction x with
  | nil => exact .nil
  | cons r t ih =>
    cases t with
    | nil => exact .nil
    | cons r' t' => exact .cons r ih
end F2

def tupO (a b : Value) : Obj := { cls := .type "tuple", data := .seq [a, b].toArray }

def VR (ρ : List Addr) (tl : Led) : V → Value → Prop
  | .int i, v => ∃ t, v = .int i t
  | .bool b, v => v = .bool b
  | .none, v => v = .none
  | .str x, v => ∃ t, v = .str x t
  | .ref i, v => ∃ a, ρ[i]? = some a ∧ v = .ref a
  | .pair a b, v => ∃ p t u, v = .ref p ∧ (p, tupO (.int a t) (.int b u)) ∈ tl
  | .kref a, v => v = .ref a
  | .bi b, v => v = .builtin b.id

structure Ext (ρ : List Addr) (tl : Led) (ρ' : List Addr) (tl' : Led) : Prop where
  r : ∀ (i : Nat) (a : Addr), ρ[i]? = some a → ρ'[i]? = some a
  t : ∀ p : Addr × Obj, p ∈ tl → p ∈ tl'
theorem Ext.refl (ρ : List Addr) (tl : Led) : Ext ρ tl ρ tl := ⟨fun _ _ h => h, fun _ h => h⟩
theorem Ext.trans {ρ ρ' ρ'' : List Addr} {tl tl' tl'' : Led} (x : Ext ρ tl ρ' tl') (y : Ext ρ' tl' ρ'' tl'') : Ext ρ tl ρ'' tl'' :=
  ⟨fun i a h => y.r i a (x.r i a h), fun p h => y.t p (x.t p h)⟩
theorem VR.ext {ρ ρ' : List Addr} {tl tl' : Led} (e : Ext ρ tl ρ' tl') : ∀ {v : V} {x : Value}, VR ρ tl v x → VR ρ' tl' v x
  | .int _, _, h => h
  | .bool _, _, h => h
  | .none, _, h => h
  | .str _, _, h => h
  | .ref _, _, ⟨a, h, q⟩ => ⟨a, e.r _ _ h, q⟩
  | .pair _ _, _, ⟨p, t, u, q, h⟩ => ⟨p, t, u, q, e.t _ h⟩
  | .kref _, _, h => h
  | .bi _, _, h => h

section
variable (prog : Program) (w : World)
def OR (ρ : List Addr) (tl : Led) : O → Obj → Prop
  | .inst C d, o => ∃ a, ρ[d]? = some a ∧ o = instObj C a
  | .attrs es, o => ∃ des n, o = dictOf des n ∧ F2 (fun (x : Str × V) (e : DictEntry) => (∃ t, e.key = .str x.1 t) ∧ VR ρ tl x.2 e.val) es des
  | .dict es, o => ∃ kvs, o.IsDictOf (PySem.strKind prog w) kvs ∧ F2 (fun (x : Str × V) (kv : Str × Value) => kv.1 = x.1 ∧ VR ρ tl x.2 kv.2) es kvs
  | .list vs, o => ∃ its n, o = W.listOf its.toArray n ∧ F2 (VR ρ tl) vs its
  | .ints ns, o => ∃ its n, o = W.listOf its.toArray n ∧ IntsAre its ns
  | .pairs ps, o => ∃ its n, o = W.listOf its.toArray n ∧ F2 (fun (p : Int × Int) v => VR ρ tl (.pair p.1 p.2) v) ps its
theorem OR.ext {ρ ρ' : List Addr} {tl tl' : Led} (e : Ext ρ tl ρ' tl') : ∀ {v : O} {x : Obj}, OR prog w ρ tl v x → OR prog w ρ' tl' v x
  | .inst _ _, _, ⟨a, h, q⟩ => ⟨a, e.r _ _ h, q⟩
  | .attrs _, _, ⟨des, n, q, h⟩ => ⟨des, n, q, h.mono fun _ _ y => ⟨y.1, y.2.ext e⟩⟩
  | .dict _, _, ⟨kvs, q, h⟩ => ⟨kvs, q, h.mono fun _ _ y => ⟨y.1, y.2.ext e⟩⟩
  | .list _, _, ⟨its, n, q, h⟩ => ⟨its, n, q, h.mono fun _ _ y => y.ext e⟩
  | .ints _, _, h => h
  | .pairs _, _, ⟨its, n, q, h⟩ => ⟨its, n, q, h.mono fun _ _ y => y.ext e⟩

structure HR (ρ : List Addr) (tl : Led) (hp : List O) (os : List Obj) (h₀ : Heap) (L : Addr) (h : Heap) : Prop where
  f2 : F2 (OR prog w ρ tl) hp os
  len : os.length = ρ.length
  news : News h₀ L h (ρ.zip os ++ tl)
  nd : (ρ ++ tl.map (·.1)).Nodup
  lo : ∀ a ∈ ρ, (a == sysModules) = false
end

theorem zip_get {ρ : List Addr} {os : List Obj} {i : Nat} {a : Addr} {o : Obj} (h1 : ρ[i]? = some a) (h2 : os[i]? = some o) : (a, o) ∈ ρ.zip os := by
  have : (ρ.zip os)[i]? = some (a, o) := by
    rw [List.getElem?_zip_eq_some]
    exact ⟨h1, h2⟩
  exact List.mem_of_getElem? this
theorem mem_zip1 {ρ : List Addr} {os : List Obj} {p : Addr × Obj} (h : p ∈ ρ.zip os) : p.1 ∈ ρ := by
  obtain ⟨a, b⟩ := p
  exact (List.of_mem_zip h).1
theorem upd_zip {tl : Led} : ∀ {ρ : List Addr} {os : List Obj} {i : Nat} {a : Addr} {o : Obj} (o' : Obj), (ρ ++ tl.map (·.1)).Nodup → ρ[i]? = some a → os[i]? = some o →
    Upd a o o' (ρ.zip os ++ tl) (ρ.zip (os.set i o') ++ tl)
  | [], _, _, _, _, _, _, h, _ => by simp at h
  | _ :: _, [], _, _, _, _, _, _, h => by simp at h
  | b :: ρ, c :: os, 0, a, o, o', nd, h1, h2 => by
    simp at h1 h2
    subst h1; subst h2
    refine Upd.head ?_
    intro p hp e
    rw [List.cons_append, List.nodup_cons] at nd
    refine nd.1 ?_
    rcases List.mem_append.mp hp with q | q
    · exact List.mem_append_left _ (e ▸ mem_zip1 q)
    · exact List.mem_append_right _ (e ▸ List.mem_map_of_mem q)
  | b :: ρ, c :: os, i + 1, a, o, o', nd, h1, h2 => by
    rw [List.cons_append, List.nodup_cons] at nd
    simp at h1 h2
    refine Upd.tail ?_ (upd_zip o' nd.2 h1 h2)
    intro e
    exact nd.1 (List.mem_append_left _ (by rw [show b = a from e]; exact List.mem_of_getElem? h1))
theorem updF_zip {tl : Led} : ∀ {ρ : List Addr} {os : List Obj} {i : Nat} {a : Addr} {o : Obj}, (ρ ++ tl.map (·.1)).Nodup → ρ[i]? = some a → os[i]? = some o →
    UpdF a o (ρ.zip os ++ tl) (fun o' => ρ.zip (os.set i o') ++ tl)
  | [], _, _, _, _, _, h, _ => by simp at h
  | _ :: _, [], _, _, _, _, _, h => by simp at h
  | b :: ρ, c :: os, 0, a, o, nd, h1, h2 => by
    simp at h1 h2
    subst h1; subst h2
    refine UpdF.head ?_
    intro p hp e
    rw [List.cons_append, List.nodup_cons] at nd
    refine nd.1 ?_
    rcases List.mem_append.mp hp with q | q
    · exact List.mem_append_left _ (e ▸ mem_zip1 q)
    · exact List.mem_append_right _ (e ▸ List.mem_map_of_mem q)
  | b :: ρ, c :: os, i + 1, a, o, nd, h1, h2 => by
    rw [List.cons_append, List.nodup_cons] at nd
    simp at h1 h2
    refine UpdF.tail ?_ (updF_zip nd.2 h1 h2)
    intro e
    exact nd.1 (List.mem_append_left _ (by rw [show b = a from e]; exact List.mem_of_getElem? h1))

section
variable {prog : Program} {w : World} {ρ : List Addr} {tl : Led} {hp : List O} {os : List Obj} {h₀ : Heap} {L : Addr} {h h' : Heap}
theorem HR.get (H : HR prog w ρ tl hp os h₀ L h) {i : Nat} {o : O} (e : hp[i]? = some o) : ∃ a ob, ρ[i]? = some a ∧ os[i]? = some ob ∧ OR prog w ρ tl o ob ∧ (a, ob) ∈ ρ.zip os ++ tl := by
  obtain ⟨ob, h1, h2⟩ := H.f2.get e
  have hl : i < ρ.length := by
    rw [← H.len]
    exact (List.getElem?_eq_some_iff.mp h1).1
  exact ⟨ρ[i], ob, List.getElem?_eq_getElem hl, h1, h2, List.mem_append_left _ (zip_get (List.getElem?_eq_getElem hl) h1)⟩
theorem HR.getA (H : HR prog w ρ tl hp os h₀ L h) {i : Nat} {o : O} {a : Addr} (e : hp[i]? = some o) (ea : ρ[i]? = some a) : ∃ ob, os[i]? = some ob ∧ OR prog w ρ tl o ob ∧ (a, ob) ∈ ρ.zip os ++ tl := by
  obtain ⟨a', ob, h1, h2, h3, h4⟩ := H.get e
  rw [ea] at h1
  cases h1
  exact ⟨ob, h2, h3, h4⟩
theorem HR.put (H : HR prog w ρ tl hp os h₀ L h) {i : Nat} {o : O} {ob : Obj} (r : OR prog w ρ tl o ob) (N : News h₀ L h' (ρ.zip (os.set i ob) ++ tl)) : HR prog w ρ tl (hp.set i o) (os.set i ob) h₀ L h' :=
  ⟨H.f2.set r, by rw [List.length_set]; exact H.len, N, H.nd, H.lo⟩
theorem HR.moved (H : HR prog w ρ tl hp os h₀ L h) {g : Heap} {L' : Addr} (N : News g L' h' (ρ.zip os ++ tl)) : HR prog w ρ tl hp os g L' h' := ⟨H.f2, H.len, N, H.nd, H.lo⟩
theorem HR.addTup (H : HR prog w ρ tl hp os h₀ L h) {p : Addr} {ob : Obj} (N : News h₀ L h' ((p, ob) :: (ρ.zip os ++ tl))) (lt : ∀ q ∈ ρ.zip os ++ tl, q.1 < p) : HR prog w ρ ((p, ob) :: tl) hp os h₀ L h' := by
  have e : Ext ρ tl ρ ((p, ob) :: tl) := ⟨fun _ _ h => h, fun _ h => .tail _ h⟩
  refine ⟨H.f2.mono fun _ _ y => y.ext prog w e, H.len, fun q hq => N q ?_, ?_, H.lo⟩
  · rcases List.mem_append.mp hq with h1 | h1
    · exact .tail _ (List.mem_append_left _ h1)
    · cases h1 with
      | head => exact .head _
      | tail _ h1 => exact .tail _ (List.mem_append_right _ h1)
  · have off : ∀ b ∈ ρ ++ tl.map (·.1), b ≠ p := by
      intro b hb e
      rcases List.mem_append.mp hb with h1 | h1
      · obtain ⟨i, hi, e2⟩ := List.mem_iff_getElem.mp h1
        have hi2 : i < os.length := by rw [H.len]; exact hi
        have := lt (b, os[i]) (List.mem_append_left _ (zip_get (i := i) (by rw [List.getElem?_eq_getElem hi, e2]) (List.getElem?_eq_getElem hi2)))
        exact Nat.ne_of_lt this e
      · obtain ⟨q, hq, e2⟩ := List.mem_map.mp h1
        have := lt q (List.mem_append_right _ hq)
        exact Nat.ne_of_lt this (e2.trans e)
    have nd := H.nd
    rw [List.nodup_append] at nd ⊢
    refine ⟨nd.1, ?_, ?_⟩
    · rw [List.map_cons, List.nodup_cons]
      exact ⟨fun hm => off p (List.mem_append_right _ hm) rfl, nd.2.1⟩
    · intro a ha b hb
      rw [List.map_cons] at hb
      cases hb with
      | head => exact off a (List.mem_append_left _ ha)
      | tail _ hb => exact nd.2.2 a ha b hb
theorem HR.addObj (H : HR prog w ρ tl hp os h₀ L h) {p : Addr} {o : O} {ob : Obj} (N : News h₀ L h' ((p, ob) :: (ρ.zip os ++ tl))) (lt : ∀ q ∈ ρ.zip os ++ tl, q.1 < p) (r : OR prog w (ρ ++ [p]) tl o ob) (lo : (p == sysModules) = false) :
    HR prog w (ρ ++ [p]) tl (hp ++ [o]) (os ++ [ob]) h₀ L h' ∧ Ext ρ tl (ρ ++ [p]) tl := by
  have e : Ext ρ tl (ρ ++ [p]) tl := ⟨fun i a h => by
    have := (List.getElem?_eq_some_iff.mp h).1
    rw [List.getElem?_append_left this]; exact h, fun _ h => h⟩
  refine ⟨⟨(H.f2.mono fun _ _ y => y.ext prog w e).append (.cons r .nil), by simp [H.len], fun q hq => N q ?_, ?_, fun a ha => ?_⟩, e⟩
  · rw [List.zip_append H.len.symm] at hq
    simp only [List.zip_cons_cons, List.zip_nil_right, List.mem_append, List.mem_cons, List.not_mem_nil, or_false] at hq ⊢
    rcases hq with (h1 | h1) | h1
    · exact .inr (.inl h1)
    · exact .inl h1
    · exact .inr (.inr h1)
  · have off : ∀ b ∈ ρ ++ tl.map (·.1), b ≠ p := by
      intro b hb e
      rcases List.mem_append.mp hb with h1 | h1
      · obtain ⟨i, hi, e2⟩ := List.mem_iff_getElem.mp h1
        have hi2 : i < os.length := by rw [H.len]; exact hi
        have := lt (b, os[i]) (List.mem_append_left _ (zip_get (i := i) (by rw [List.getElem?_eq_getElem hi, e2]) (List.getElem?_eq_getElem hi2)))
        exact Nat.ne_of_lt this e
      · obtain ⟨q, hq, e2⟩ := List.mem_map.mp h1
        have := lt q (List.mem_append_right _ hq)
        exact Nat.ne_of_lt this (e2.trans e)
    have nd := H.nd
    rw [List.nodup_append] at nd ⊢
    refine ⟨?_, nd.2.1, ?_⟩
    · rw [List.nodup_append]
      refine ⟨nd.1, by simp, ?_⟩
      intro a ha b hb
      simp at hb
      subst hb
      exact off a (List.mem_append_left _ ha)
    · intro a ha b hb
      rcases List.mem_append.mp ha with h1 | h1
      · exact nd.2.2 a h1 b hb
      · simp at h1
        subst h1
        exact fun e => off b (List.mem_append_right _ hb) e.symm
  · rcases List.mem_append.mp ha with h1 | h1
    · exact H.lo a h1
    · rw [List.mem_singleton.mp h1]; exact lo
end
end Mine
end
section
namespace Mine
open PySem PySem.W PySem.Spec PySem.Calls PyProof.Rows

abbrev Loc := List (Str × V)
abbrev Hp := List O

def br (b : Bool) (X Y : Prop) : Prop := @Bool.rec (fun _ => Prop) Y X b
def need (b : Bool) (X : Prop) : Prop := br b X False
theorem br_t {X Y : Prop} : br true X Y = X := rfl
theorem br_f {X Y : Prop} : br false X Y = Y := rfl
theorem need_of {b : Bool} {X : Prop} (h : need b X) : b = true ∧ X := by
  cases b with
  | true => exact ⟨rfl, h⟩
  | false => exact h.elim
theorem need_in {b : Bool} {X : Prop} (h : b = true) (x : X) : need b X := by
  subst h; exact x
theorem br_in {b : Bool} {X Y : Prop} (hx : b = true → X) (hy : b = false → Y) : br b X Y := by
  cases b with
  | true => exact hx rfl
  | false => exact hy rfl

inductive Job where
  | ex (cs : Scope) (e : Expr) (loc : Loc) (hp : Hp) (k : V → Hp → Prop)
  | tst (cs : Scope) (e : Expr) (loc : Loc) (hp : Hp) (k : Bool → Hp → Prop)
  | args (cs : Scope) (es : List Expr) (loc : Loc) (hp : Hp) (k : List V → Hp → Prop)
  | prs (cs : Scope) (ks : List (Option Expr)) (es : List Expr) (loc : Loc) (hp : Hp) (k : List (Str × V) → Hp → Prop)
  | sts (cs : Scope) (ss : List Stmt) (loc : Loc) (hp : Hp) (k : Fl → Loc → Hp → Prop)
  | call (f : V) (vs : List V) (hp : Hp) (k : V → Hp → Prop)

structure FI where
  qual : Str
  names : List Str
  body : List Stmt
  scope : Scope
  code : Value

def simpleParams (p : Arguments) : Bool := p.posonlyargs.isEmpty && p.vararg.isNone && p.kwonlyargs.isEmpty && p.kwarg.isNone
def nodupB : List Str → Bool
  | [] => true
  | x :: r => !(r.contains x) && nodupB r
def plainFd (K : Frag) (fd : FuncData) : Bool :=
  fd.globals == mainGlobals && fd.closure.isEmpty && fd.builtins == builtinsNs && simpleParams fd.params && fd.defaults == .none && codeIn K fd.code fd.qualname &&
  !fd.scope.isCoroutine && !fd.scope.isGenerator && fd.scope.kind == .function && fd.scope.names.all (fun x => x.2 != .cell) &&
  (fd.params.args.map (·.arg)).all (fun n => fd.scope.names.lookup n == some .local) && nodupB (fd.params.args.map (·.arg))
def fnAt (K : Frag) (f : Nat) : Option FI := match List.lookup f K with
  | some ⟨_, _, .func fd, _⟩ => (match fd.body with
      | .stmts b => if plainFd K fd then some ⟨fd.qualname, fd.params.args.map (·.arg), b, fd.scope, fd.code⟩ else none
      | _ => none)
  | _ => none

def biOf (x : Str) : Option BI := if x = Str.ofString "len" then some .len else if x = Str.ofString "abs" then some .abs else if x = Str.ofString "max" then some .max else if x = Str.ofString "min" then some .min else none

def globW (K : Frag) (x : Str) (k : V → Prop) : Prop := match nsIn K mainGlobals x with
  | some (some (.int i _)) => k (.int i)
  | some (some (.ref a)) => k (.kref a)
  | some none => (match biOf x with | some b => k (.bi b) | none => False)
  | _ => False
def nameW (K : Frag) (cs : Scope) (x : Str) (loc : Loc) (k : V → Prop) : Prop := need (!(x == Str.ofString "__debug__")) (match cs.names.lookup x with
  | some .local => (match loc.lookup x with | some v => k v | none => False)
  | some .globalImplicit => globW K x k
  | _ => False)

def small (a : Int) : Bool := decide (-(2 ^ 63) < a) && decide (a < 2 ^ 63)
def mulB (a b : Int) : Bool := small a || small b
def divB (b : Int) : Bool := decide (0 < b) && decide (b < 2 ^ 200)
def binW (op : Operator) (a b : V) (k : V → Prop) : Prop := match a, b with
  | .int x, .int y => (match op with
      | .Add => k (.int (x + y))
      | .Sub => k (.int (x - y))
      | .Mult => need (mulB x y) (k (.int (x * y)))
      | .FloorDiv => need (divB y) (k (.int (x.fdiv y)))
      | .Mod => need (divB y) (k (.int (x.fmod y)))
      | _ => False)
  | _, _ => False
def cmpW (op : CmpOp) (a b : V) (k : V → Prop) : Prop := match a, b with
  | .int x, .int y => (match op with
      | .Eq => k (.bool (x == y))
      | .NotEq => k (.bool (x != y))
      | .Lt => k (.bool (decide (x < y)))
      | .LtE => k (.bool (decide (x ≤ y)))
      | .Gt => k (.bool (decide (y < x)))
      | .GtE => k (.bool (decide (y ≤ x)))
      | _ => False)
  | .int _, .none => (match op with | .Is => k (.bool false) | .IsNot => k (.bool true) | _ => False)
  | .none, .none => (match op with | .Is => k (.bool true) | .IsNot => k (.bool false) | _ => False)
  | _, _ => False

def attrOk (K : Frag) (C : Nat) (a : Str) : Bool := plainGet K C a && hasDictIn K C && (match findIn K (.ref C) a with | some t => noGet K t | none => false)
def handV : V → Bool
  | .int _ => true
  | .none => true
  | _ => false
def attrW (K : Frag) (o : V) (a : Str) (hp : Hp) (k : V → Prop) : Prop := match o with
  | .ref i => (match hp[i]? with
      | some (.inst C d) => (match hp[d]? with
          | some (.attrs es) => need (attrOk K C a) (match es.lookup a with | some v => need (handV v) (k v) | none => False)
          | _ => False)
      | _ => False)
  | _ => False
def setOk (K : Frag) (C : Nat) (a : Str) : Bool := findIn K (.ref C) (Str.ofString "__setattr__") == some (some (.builtin "object.__setattr__")) && plainOver K C && takerIn K C a == some none && hasDictIn K C
def putA (a : Str) (v : V) : Loc → Loc
  | [] => [(a, v)]
  | (b, x) :: r => if b = a then (b, v) :: r else (b, x) :: putA a v r
def setW (K : Frag) (o : V) (a : Str) (v : V) (hp : Hp) (k : Hp → Prop) : Prop := match o with
  | .ref i => (match hp[i]? with
      | some (.inst C d) => (match hp[d]? with
          | some (.attrs es) => need (setOk K C a && decide (es.length < 100)) (k (hp.set d (.attrs (putA a v es))))
          | _ => False)
      | _ => False)
  | _ => False

def menuOf : Expr → Option (List Int)
  | .List els _ => els.mapM fun e => match e with | .Constant (.int i) _ _ => some i | _ => none
  | _ => none
def emptyL : Expr → Bool
  | .List [] _ => true
  | _ => false
def tup2 : Expr → Option (Expr × Expr)
  | .Tuple [a, b] _ _ => some (a, b)
  | _ => none
def notSet : Expr → Bool
  | .Set .. => false
  | _ => true
def notStar : Expr → Bool
  | .Starred .. => false
  | _ => true
def isName : Expr → Bool
  | .Name .. => true
  | _ => false
def plainIx : Expr → Bool
  | .Constant .. | .BinOp .. | .Name .. | .Call .. => true
  | _ => false
def notComp : Expr → Bool
  | .ListComp .. | .SetComp .. | .DictComp .. => false
  | _ => true

def subW (nm : Bool) (o i : V) (hp : Hp) (k : V → Prop) : Prop := match o, i with
  | .ref a, .str x => (match hp[a]? with
      | some (.dict es) => need nm (match es.lookup x with | some v => k v | none => False)
      | _ => False)
  | .ref a, .int j => (match hp[a]? with
      | some (.list vs) => need (decide (0 ≤ j) && decide (j < 2 ^ 63)) (match vs[j.toNat]? with | some v => k v | none => False)
      | some (.ints ns) => need (decide (0 ≤ j) && decide (j < ns.length) && decide (j < 2 ^ 63)) (k (.int (ns.getD j.toNat 0)))
      | _ => False)
  | .pair x y, .int j => need (decide (0 ≤ j) && decide (j < 2)) (k (.int (if j = 0 then x else y)))
  | _, _ => False

def classFn (K : Frag) (C : Nat) (name : Str) : Option Nat := match typeIn K (.ref C) with
  | some mc => (match findCls K (.ref C) mc name with
      | some (.val (.ref f)) => if readsIn K C mc && specialIn K (.ref C) (Str.ofString "__getattribute__") == some (some (.builtin "type.__getattribute__")) then some f else none
      | _ => none)
  | none => none
def methFn (K : Frag) (C : Nat) (name : Str) : Option Nat := match findIn K (.ref C) name with
  | some (some (.ref f)) => if plainGet K C name && isFn K (.ref f) then some f else none
  | _ => none

def putD (a : Str) (v : V) (es : Loc) : Loc := if es.any (fun x => decide (x.1 = a)) then es.map (fun x => if x.1 = a then (x.1, v) else x) else es ++ [(a, v)]
def mergeD (es more : Loc) : Loc := more.foldl (fun acc kv => putD kv.1 kv.2 acc) es

def dictSetW (o : V) (x : Str) (v : V) (hp : Hp) (k : Hp → Prop) : Prop := match o with
  | .ref a => (match hp[a]? with
      | some (.dict es) => need (decide (es.length < 100)) (k (hp.set a (.dict (putD x v es))))
      | _ => False)
  | _ => False
def listSetW (o : V) (j : Int) (v : V) (hp : Hp) (k : Hp → Prop) : Prop := match o with
  | .ref a => (match hp[a]? with
      | some (.list vs) => need (decide (0 ≤ j) && decide (j < 2 ^ 63) && decide (j.toNat < vs.length)) (k (hp.set a (.list (vs.set j.toNat v))))
      | _ => False)
  | _ => False
end Mine
end
section
namespace Mine
open PySem PySem.W PySem.Spec PySem.Calls PyProof.Rows

def sumView : List Expr → Option Expr
  | [.ListComp (.Name x _) [⟨.Tuple [.Name a _, .Name b _] _ _, .Subscript iv ii ip, [], 0⟩] sc _] =>
    if x = Str.ofString "size" ∧ a = Str.ofString "sent_at" ∧ b = Str.ofString "size" ∧ sc.names = [(Str.ofString ".0", .local), (Str.ofString "sent_at", .local), (Str.ofString "size", .local)] ∧ sc.kind = .function then some (.Subscript iv ii ip) else none
  | _ => none

section
variable (K : Frag) (rec : Job → Prop)

def cmpE (cs : Scope) (l : Expr) (op : CmpOp) (r : Expr) (loc : Loc) (hp : Hp) (k : V → Hp → Prop) : Prop :=
  match emptyL r with
  | true => rec (.ex cs l loc hp fun a hp => match a with
      | .ref i => (match hp[i]? with
          | some (.pairs ps) => (match op with
              | .Eq => k (.bool ps.isEmpty) hp
              | .NotEq => k (.bool (!ps.isEmpty)) hp
              | _ => False)
          | _ => False)
      | _ => False)
  | false => match tup2 l, tup2 r with
      | some (a, b), some (c, d) => need (notStar a && notStar b && notStar c && notStar d) (rec (.ex cs a loc hp fun va hp => rec (.ex cs b loc hp fun vb hp => rec (.ex cs c loc hp fun vc hp => rec (.ex cs d loc hp fun vd hp =>
          match va, vb, vc, vd with
          | .int x, .int y, .int z, .int u => (match op with
              | .NotEq => k (.bool (!(x == z && y == u))) hp
              | _ => False)
          | _, _, _, _ => False)))))
      | none, none => need (notSet r) (rec (.ex cs l loc hp fun a hp => rec (.ex cs r loc hp fun b hp => cmpW op a b fun v => k v hp)))
      | _, _ => False

def plainObj : Expr → Bool
  | .Name .. => true
  | .Subscript (.Name ..) (.Constant (.str _) _ _) _ => true
  | _ => false

def methW (cs : Scope) (ov : V) (name : Str) (args : List Expr) (loc : Loc) (hp : Hp) (k : V → Hp → Prop) : Prop := match ov with
  | .ref i => (match hp[i]? with
      | some (.inst C d) => (match hp[d]? with
          | some (.attrs es) => (match es.lookup name, methFn K C name with
              | none, some f => need (keepIn K (.ref f) && args.all notStar) (rec (.args cs args loc hp fun vs hp => rec (.call (.kref f) (.ref i :: vs) hp k)))
              | _, _ => False)
          | _ => False)
      | some (.pairs _) =>
          if name = Str.ofString "append" then need (!args.isEmpty && args.all notStar) (rec (.args cs args loc hp fun vs hp => match vs with
            | [.pair a b] => (match hp[i]? with
                | some (.pairs ps) => need (decide (ps.length < 1000)) (k .none (hp.set i (.pairs (ps ++ [(a, b)]))))
                | _ => False)
            | _ => False))
          else if name = Str.ofString "pop" then (match args with
            | [] => (match hp[i]? with
                | some (.pairs ps) => need (!ps.isEmpty && decide (ps.length < 1000)) (k (.pair (ps.getLastD (0, 0)).1 (ps.getLastD (0, 0)).2) (hp.set i (.pairs ps.dropLast)))
                | _ => False)
            | [.Constant (.int j) _ _] => need (j == 0) (match hp[i]? with
                | some (.pairs (p :: ps)) => need (decide (ps.length < 1000)) (k (.pair p.1 p.2) (hp.set i (.pairs ps)))
                | _ => False)
            | _ => False)
          else False
      | some (.dict _) => if name = Str.ofString "update" then need (!args.isEmpty && args.all notStar) (rec (.args cs args loc hp fun vs hp => match vs with
            | [.ref j] => (match hp[i]?, hp[j]? with
                | some (.dict es), some (.dict more) => need (decide (es.length < 100) && decide (more.length < 100) && !(i == j)) (k .none (hp.set i (.dict (mergeD es more))))
                | _, _ => False)
            | _ => False))
          else False
      | _ => False)
  | .kref C => (match classFn K C name with
      | some f => need (keepIn K (.ref f) && args.all notStar) (rec (.args cs args loc hp fun vs hp => rec (.call (.kref f) vs hp k)))
      | none => False)
  | _ => False

def stepE (cs : Scope) (e : Expr) (loc : Loc) (hp : Hp) (k : V → Hp → Prop) : Prop := match e with
  | .Constant c _ _ => (match c with
      | .int i => k (.int i) hp
      | .none => k .none hp
      | .bool b => k (.bool b) hp
      | .str x => k (.str x) hp
      | _ => False)
  | .Name x _ => nameW K cs x loc fun v => k v hp
  | .BinOp l op r _ => rec (.ex cs l loc hp fun a hp => rec (.ex cs r loc hp fun b hp => binW op a b fun v => k v hp))
  | .BoolOp op vs p => (match vs with
      | [] => False
      | [e] => rec (.ex cs e loc hp k)
      | e₁ :: e₂ :: rest => rec (.ex cs e₁ loc hp fun v hp => match v with
          | .bool b => (match op with
              | .And => br b (rec (.ex cs (.BoolOp .And (e₂ :: rest) p) loc hp k)) (k (.bool b) hp)
              | .Or => br b (k (.bool b) hp) (rec (.ex cs (.BoolOp .Or (e₂ :: rest) p) loc hp k)))
          | _ => False))
  | .IfExp t b o _ => rec (.tst cs t loc hp fun c hp => br c (rec (.ex cs b loc hp k)) (rec (.ex cs o loc hp k)))
  | .Compare l ops rs _ => (match ops, rs with
      | [op], [r] => cmpE rec cs l op r loc hp k
      | _, _ => False)
  | .Attribute v a _ => (match v with
      | .Name x px => rec (.ex cs (.Name x px) loc hp fun o hp => attrW K o a hp fun v => k v hp)
      | _ => False)
  | .Subscript v s _ => (match menuOf v with
      | some ms => need (plainIx s && decide (ms.length < 100)) (rec (.ex cs s loc hp fun i hp => match i with
          | .int j => need (decide (0 ≤ j) && decide (j < ms.length)) (k (.int (ms.getD j.toNat 0)) hp)
          | _ => False))
      | none => need (plainIx s) (rec (.ex cs v loc hp fun o hp => rec (.ex cs s loc hp fun i hp => subW (isName v) o i hp fun v => k v hp))))
  | .Call f args kws pos => (match kws with
      | [] => (match f with
          | .Attribute o name ap => need (plainObj o && ap.endLine == pos.line && decide (args.length < 30) && args.all notStar) (rec (.ex cs o loc hp fun ov hp => methW K rec cs ov name args loc hp k))
          | .Name x px => (match sumView args with
              | some it => need (x == Str.ofString "sum") (need (cs.names.lookup x == some .globalImplicit) (rec (.ex cs it loc hp fun o hp => match o with
                  | .ref i => (match hp[i]? with
                      | some (.pairs ps) => need (decide (ps.length < 1000)) (k (.int ((ps.map (·.2)).sum)) hp)
                      | _ => False)
                  | _ => False)))
              | none => rec (.ex cs (.Name x px) loc hp fun fv hp => match fv with
                  | .kref f => need (keepIn K (.ref f) && args.all notStar) (rec (.args cs args loc hp fun vs hp => rec (.call (.kref f) vs hp k)))
                  | .bi b => need (!args.isEmpty && args.all notStar) (rec (.args cs args loc hp fun vs hp => rec (.call (.bi b) vs hp k)))
                  | _ => False))
          | _ => False)
      | _ => False)
  | .Tuple es _ _ => (match es with
      | [a, b] => rec (.args cs [a, b] loc hp fun vs hp => match vs with
          | [.int x, .int y] => k (.pair x y) hp
          | _ => False)
      | _ => False)
  | .Dict ks vs _ => need (decide (ks.length = vs.length) && decide (ks.length ≤ 15) && !ks.isEmpty && ks.all (·.isSome)) (rec (.prs cs ks vs loc (hp ++ [.dict []]) fun kvs hp' =>
      match hp'[hp.length]? with
      | some (.dict []) => need (nodupB (kvs.map (·.1))) (k (.ref hp.length) (hp'.set hp.length (.dict kvs)))
      | _ => False))
  | .List es _ => (match es with
      | [] => k (.ref hp.length) (hp ++ [.pairs []])
      | _ => False)
  | _ => False

def stepT (cs : Scope) (e : Expr) (loc : Loc) (hp : Hp) (k : Bool → Hp → Prop) : Prop := match e with
  | .UnaryOp op x _ => (match op with
      | .Not => rec (.tst cs x loc hp fun b hp => k (!b) hp)
      | _ => False)
  | .BoolOp op vs p => (match vs with
      | [] => (match op with
          | .And => k true hp
          | .Or => k false hp)
      | x :: rest => rec (.tst cs x loc hp fun c hp => match op with
          | .And => br c (rec (.tst cs (.BoolOp .And rest p) loc hp k)) (k false hp)
          | .Or => br c (k true hp) (rec (.tst cs (.BoolOp .Or rest p) loc hp k))))
  | .Compare l ops rs _ => (match ops, rs with
      | [op], [r] => cmpE rec cs l op r loc hp fun v hp => match v with
          | .bool b => k b hp
          | _ => False
      | _, _ => False)
  | .Name x p => rec (.ex cs (.Name x p) loc hp fun v hp => match v with
      | .bool b => k b hp
      | _ => False)
  | .Call f as kw p => rec (.ex cs (.Call f as kw p) loc hp fun v hp => match v with
      | .bool b => k b hp
      | _ => False)
  | .Subscript v s p => rec (.ex cs (.Subscript v s p) loc hp fun v hp => match v with
      | .bool b => k b hp
      | _ => False)
  | _ => False

def stepA (cs : Scope) (es : List Expr) (loc : Loc) (hp : Hp) (k : List V → Hp → Prop) : Prop := match es with
  | [] => k [] hp
  | e :: r => need (notStar e) (rec (.ex cs e loc hp fun v hp => rec (.args cs r loc hp fun vs hp => k (v :: vs) hp)))

def stepP (cs : Scope) (ks : List (Option Expr)) (es : List Expr) (loc : Loc) (hp : Hp) (k : List (Str × V) → Hp → Prop) : Prop := match ks, es with
  | [], [] => k [] hp
  | some (.Constant (.str x) _ _) :: kr, e :: r => rec (.ex cs e loc hp fun v hp => rec (.prs cs kr r loc hp fun vs hp => k ((x, v) :: vs) hp))
  | _, _ => False

def stepC (f : V) (vs : List V) (hp : Hp) (k : V → Hp → Prop) : Prop := match f with
  | .kref a => (match fnAt K a with
      | some fi => need (fi.names.length == vs.length) (rec (.sts fi.scope fi.body (fi.names.zip vs) hp fun fl _ hp => match fl with
          | .next => k .none hp
          | .ret v => k v hp))
      | none => False)
  | .bi .len => (match vs with
      | [.ref i] => (match hp[i]? with
          | some (.ints ns) => need (decide (ns.length < 2 ^ 62)) (k (.int ns.length) hp)
          | _ => False)
      | _ => False)
  | .bi .abs => (match vs with
      | [.int a] => k (.int (if a < 0 then -a else a)) hp
      | _ => False)
  | .bi .max => (match vs with
      | [.int a, .int b] => k (.int (if b > a then b else a)) hp
      | _ => False)
  | .bi .min => (match vs with
      | [.int a, .int b] => k (.int (if b < a then b else a)) hp
      | _ => False)
  | _ => False

def isLocal (cs : Scope) (x : Str) : Bool := cs.names.lookup x == some .local
def dictKey : Expr → Option Str
  | .Constant (.str x) _ _ => some x
  | _ => none
-- the targets of a tuple, in the order of the stores
def storesW (cs : Scope) : List Expr → List V → Loc → Hp → (Loc → Hp → Prop) → Prop
  | [], [], loc, hp, k => k loc hp
  | t :: ts, v :: vs, loc, hp, k => (match t with
      | .Name x _ => need (isLocal cs x) (storesW cs ts vs (putA x v loc) hp k)
      | .Subscript (.Name o po) s _ => (match dictKey s with
          | some x => rec (.ex cs (.Name o po) loc hp fun ov hp => dictSetW ov x v hp fun hp => storesW cs ts vs loc hp k)
          | none => False)
      | _ => False)
  | _, _, _, _, _ => False

def allNames : List Expr → Option (List (Str × Nat))
  | [] => some []
  | .Name x p :: r => (allNames r).map ((x, p.line) :: ·)
  | _ :: _ => none
-- none: the stores are not swapped; some: they are
def swapP (cs : Scope) (ts vs : List Expr) : Option Bool :=
  if ts.length = 2 then (match allNames ts with
    | some [(a, l), (b, l')] => if isLocal cs a && isLocal cs b && l == l' && !(a == b) && decide (vs.length = 2) && vs.all notStar then
        (if vs.all (foldedForSure 8) then some false else if vs.all (constantsAlone 8) then none else some true) else none
    | _ => if ts.any isName then none else some false)
  else if ts.any isName then none else some false

def whileW (cs : Scope) (t : Expr) (b : List Stmt) (k : Loc → Hp → Prop) : Nat → Loc → Hp → Prop
  | 0, _, _ => False
  | m + 1, loc, hp => rec (.tst cs t loc hp fun c hp => br c (rec (.sts cs b loc hp fun fl loc hp => match fl with
      | .next => whileW cs t b k m loc hp
      | .ret _ => False)) (k loc hp))

def stepS (cs : Scope) (ss : List Stmt) (loc : Loc) (hp : Hp) (k : Fl → Loc → Hp → Prop) : Prop := match ss with
  | [] => k .next loc hp
  | s :: rest => (match s with
      | .Expr e _ => need (notComp e) (rec (.ex cs e loc hp fun _ hp => rec (.sts cs rest loc hp k)))
      | .Assign ts e _ => need (notComp e) (match ts with
          | [.Name x _] => need (isLocal cs x) (rec (.ex cs e loc hp fun v hp => rec (.sts cs rest (putA x v loc) hp k)))
          | [.Attribute (.Name o po) a _] => rec (.ex cs e loc hp fun v hp => rec (.ex cs (.Name o po) loc hp fun ov hp => setW K ov a v hp fun hp => rec (.sts cs rest loc hp k)))
          | [.Subscript (.Name o po) s _] => (match s with
              | .Constant (.str x) _ _ => rec (.ex cs e loc hp fun v hp => rec (.ex cs (.Name o po) loc hp fun ov hp => dictSetW ov x v hp fun hp => rec (.sts cs rest loc hp k)))
              | .Constant (.int j) _ _ => rec (.ex cs e loc hp fun v hp => rec (.ex cs (.Name o po) loc hp fun ov hp => listSetW ov j v hp fun hp => rec (.sts cs rest loc hp k)))
              | _ => False)
          | [.Tuple tgs _ _] => (match e with
              | .Tuple es _ _ => (match swapP cs tgs es with
                  | some false => need (tgs.all notStar) (rec (.args cs es loc hp fun vs hp => need (decide (vs.length = tgs.length) && decide (vs.length < 10)) (storesW rec cs tgs vs loc hp fun loc hp => rec (.sts cs rest loc hp k))))
                  | some true => rec (.args cs es loc hp fun vs hp => need (decide (vs.length = 2)) (storesW rec cs tgs.reverse vs.reverse loc hp fun loc hp => rec (.sts cs rest loc hp k)))
                  | none => False)
              | .Call f as kw p => need (decide (tgs.length = 2) && tgs.all notStar) (rec (.ex cs (.Call f as kw p) loc hp fun v hp => match v with
                  | .pair x y => storesW rec cs tgs [.int x, .int y] loc hp fun loc hp => rec (.sts cs rest loc hp k)
                  | _ => False))
              | _ => False)
          | _ => False)
      | .AugAssign t op e _ => (match t with
          | .Attribute (.Name o po) a _ => rec (.ex cs (.Name o po) loc hp fun ov hp => attrW K ov a hp fun old => rec (.ex cs e loc hp fun v hp => (match op with
              | .Add => binW .Add old v fun new => setW K ov a new hp fun hp => rec (.sts cs rest loc hp k)
              | .Sub => binW .Sub old v fun new => setW K ov a new hp fun hp => rec (.sts cs rest loc hp k)
              | _ => False)))
          | _ => False)
      | .If t b o _ => rec (.tst cs t loc hp fun c hp => br c (rec (.sts cs b loc hp fun fl loc hp => match fl with
              | .next => rec (.sts cs rest loc hp k)
              | .ret v => k (.ret v) loc hp)) (rec (.sts cs o loc hp fun fl loc hp => match fl with
              | .next => rec (.sts cs rest loc hp k)
              | .ret v => k (.ret v) loc hp)))
      | .Return v _ => (match v with
          | some e => rec (.ex cs e loc hp fun v hp => k (.ret v) loc hp)
          | none => k (.ret .none) loc hp)
      | .While t b o _ => (match o with
          | [] => whileW rec cs t b (fun loc hp => rec (.sts cs rest loc hp k)) 60 loc hp
          | _ => False)
      | _ => False)

def step : Job → Prop
  | .ex cs e loc hp k => stepE K rec cs e loc hp k
  | .tst cs e loc hp k => stepT rec cs e loc hp k
  | .args cs es loc hp k => stepA rec cs es loc hp k
  | .prs cs ks es loc hp k => stepP rec cs ks es loc hp k
  | .sts cs ss loc hp k => stepS K rec cs ss loc hp k
  | .call f vs hp k => stepC K rec f vs hp k
end
def Wp (K : Frag) (n : Nat) (j : Job) : Prop := @Nat.rec (fun _ => Job → Prop) (fun _ => False) (fun _ ih => step K ih) n j
end Mine
end
section
namespace Mine
open PySem PySem.W PySem.Spec PySem.Calls PyProof.Rows

structure Fm where
  dp : Nat
  un : Nat
  gd : Option (List Code)
  cn : Str
  cs : Scope
  L : Addr
  a : Addr
  ccd : Value
  outer : List Env
  A₀ : Around
  base : Heap
  h₀ : Heap
abbrev Fm.env (f : Fm) : Env := envX f.cn f.cs f.L f.a f.ccd []
abbrev Fm.A (f : Fm) : Around := ktrTop f.dp f.un f.gd f.cn f.cs f.L f.a f.ccd [] f.outer
structure FmOk (K : Frag) (p : Program) (loose : List Str) (mean : ExcName → Option Value) (mg mb : Str → Option Value) (f : Fm) (n : Nat) : Prop where
  B : Below f.A₀ f.base f.outer f.h₀
  X : K.In f.h₀
  T : Top p loose mean mg mb f.h₀
  ck : f.cs.kind = .function
  d : f.dp + n < recursionLimit
  u : f.un + 8 * n + 64 < cLine
theorem FmOk.pred {K : Frag} {p : Program} {loose : List Str} {mean : ExcName → Option Value} {mg mb : Str → Option Value} {f : Fm} {n : Nat} (h : FmOk K p loose mean mg mb f (n + 1)) : FmOk K p loose mean mg mb f n :=
  ⟨h.B, h.X, h.T, h.ck, by have := h.d; omega, by have := h.u; omega⟩

abbrev NE : Value → Shared → Prop := fun _ _ => False
def LR (ρ : List Addr) (tl : Led) (loc : Loc) (m : Str → Option Value) : Prop := ∀ x v, loc.lookup x = some v → ∃ v', m x = some v' ∧ VR ρ tl v v'
theorem LR.ext {ρ ρ' : List Addr} {tl tl' : Led} {loc : Loc} {m : Str → Option Value} (h : LR ρ tl loc m) (e : Ext ρ tl ρ' tl') : LR ρ' tl' loc m := fun x v q => by
  obtain ⟨v', h1, h2⟩ := h x v q
  exact ⟨v', h1, h2.ext e⟩
theorem LR.put {ρ : List Addr} {tl : Led} {loc : Loc} {m : Str → Option Value} (h : LR ρ tl loc m) {x : Str} {v : V} {v' : Value} (r : VR ρ tl v v') : LR ρ tl (putA x v loc) (fun y => if y = x then some v' else m y) := by
  have look : ∀ (loc : Loc) (y : Str), (putA x v loc).lookup y = if y = x then some v else loc.lookup y := by
    intro loc
    induction loc with
    | nil =>
      intro y
      by_cases h1 : y = x
      · subst h1; simp [putA]
      · have h2 : (y == x) = false := beq_false_of_ne h1
        simp [putA, List.lookup_cons, h1, h2]
    | cons e r ih =>
      obtain ⟨b, z⟩ := e
      intro y
      unfold putA
      by_cases hb : b = x
      · subst hb
        rw [if_pos rfl, List.lookup_cons, List.lookup_cons]
        by_cases h1 : y = b
        · subst h1; simp
        · have h2 : (y == b) = false := beq_false_of_ne h1
          simp [h1, h2]
      · rw [if_neg hb, List.lookup_cons, List.lookup_cons, ih y]
        by_cases h1 : y = x
        · subst h1
          have : (y == b) = false := by simpa using fun e => hb e.symm
          simp [this]
        · simp [h1]
  intro y u q
  rw [look] at q
  by_cases h1 : y = x
  · subst h1
    simp at q
    subst q
    exact ⟨v', by simp, r⟩
  · rw [if_neg h1] at q
    obtain ⟨u', h2, h3⟩ := h y u q
    exact ⟨u', by simp [h1, h2], h3⟩

def FlR (ρ : List Addr) (tl : Led) : Fl → Flow → Prop
  | .next, f => f = .next
  | .ret v, f => ∃ v', f = .ret v' ∧ VR ρ tl v v'

section
variable (prog : Program) (w : World) (K : Frag) (p : Program) (loose : List Str) (mean : ExcName → Option Value) (mg mb : Str → Option Value)

def KE {α β : Type} (f : Fm) (m : Str → Option Value) (ρ : List Addr) (tl : Led) (s : Shared) (R : List Addr → Led → α → β → Prop) (k : α → Hp → Prop) (Q : β → Shared → Prop) : Prop :=
  ∀ (v : α) (hp' : Hp) (ρ' : List Addr) (tl' : Led) (os' : List Obj) (h' : Heap) (tk' : Nat) (v' : β), k v hp' → Ext ρ tl ρ' tl' → Fr f.h₀ f.L h' m → HR prog w ρ' tl' hp' os' f.h₀ f.L h' → R ρ' tl' v v' → Q v' { s with heap := h', toks := tk' }
def KS (f : Fm) (ρ : List Addr) (tl : Led) (s : Shared) (k : Fl → Loc → Hp → Prop) (Q : Flow → Shared → Prop) : Prop :=
  ∀ (fl : Fl) (loc' : Loc) (hp' : Hp) (ρ' : List Addr) (tl' : Led) (os' : List Obj) (h' : Heap) (tk' : Nat) (m' : Str → Option Value) (fl' : Flow), k fl loc' hp' → Ext ρ tl ρ' tl' → Fr f.h₀ f.L h' m' → HR prog w ρ' tl' hp' os' f.h₀ f.L h' → LR ρ' tl' loc' m' → FlR ρ' tl' fl fl' → Q fl' { s with heap := h', toks := tk' }

def At (f : Fm) (m : Str → Option Value) (ρ : List Addr) (tl : Led) (hp : Hp) (os : List Obj) (loc : Loc) (s : Shared) : Prop :=
  Fr f.h₀ f.L s.heap m ∧ HR prog w ρ tl hp os f.h₀ f.L s.heap ∧ LR ρ tl loc m

def Rb (_ : List Addr) (_ : Led) (b b' : Bool) : Prop := b = b'
def Rl (ρ : List Addr) (tl : Led) (vs : List V) (vs' : List Value) : Prop := F2 (VR ρ tl) vs vs'
def Rp (ρ : List Addr) (tl : Led) (vs : List (Str × V)) (vs' : List (Value × Value)) : Prop := F2 (fun (x : Str × V) (y : Value × Value) => (∃ t, y.1 = .str x.1 t) ∧ VR ρ tl x.2 y.2) vs vs'

def Snd (n : Nat) : Job → Prop
  | .ex cs e loc hp k => ∀ (f : Fm), f.cs = cs → FmOk K p loose mean mg mb f n → ∀ m ρ tl os s Q, At prog w f m ρ tl hp os loc s → KE prog w f m ρ tl s VR k Q → wpAny (model prog w) f.A (eval e f.env) Q NE s
  | .tst cs e loc hp k => ∀ (f : Fm), f.cs = cs → FmOk K p loose mean mg mb f n → ∀ m ρ tl os s Q, At prog w f m ρ tl hp os loc s → KE prog w f m ρ tl s Rb k Q → wpAny (model prog w) f.A (PySem.isTrue e f.env (eval e f.env)) Q NE s
  | .args cs es loc hp k => ∀ (f : Fm), f.cs = cs → FmOk K p loose mean mg mb f n → ∀ pos m ρ tl os s Q, At prog w f m ρ tl hp os loc s → KE prog w f m ρ tl s Rl k Q → wpAny (model prog w) f.A (spliced (backTo pos (starEach es f.env))) Q NE s
  | .prs cs ks es loc hp k => ∀ (f : Fm), f.cs = cs → FmOk K p loose mean mg mb f n → ∀ pos m ρ tl os s Q, At prog w f m ρ tl hp os loc s → KE prog w f m ρ tl s Rp k Q → wpAny (model prog w) f.A (evalPairs (pairTrees ks es f.env pos)) Q NE s
  | .sts cs ss loc hp k => ∀ (f : Fm), f.cs = cs → FmOk K p loose mean mg mb f n → ∀ m ρ tl os s Q, At prog w f m ρ tl hp os loc s → KS prog w f ρ tl s k Q → wpAny (model prog w) f.A (execs ss f.env) Q NE s
  | .call g vs hp k => ∀ (f : Fm), FmOk K p loose mean mg mb f n → ∀ m ρ tl os s g' vs' Q, At prog w f m ρ tl hp os [] s → VR ρ tl g g' → F2 (VR ρ tl) vs vs' → KE prog w f m ρ tl s VR k Q → wpAny (model prog w) f.A (call g' vs') Q NE s
end

section
variable {prog : Program} {w : World} {K : Frag} {p : Program} {loose : List Str} {mean : ExcName → Option Value} {mg mb : Str → Option Value}
variable {f : Fm} {m : Str → Option Value} {ρ : List Addr} {tl : Led} {hp : Hp} {os : List Obj} {loc : Loc} {s : Shared} {n : Nat}

theorem KE.use {α β : Type} {R : List Addr → Led → α → β → Prop} {k : α → Hp → Prop} {Q : β → Shared → Prop} (h : KE prog w f m ρ tl s R k Q) {v : α} {v' : β} (x : At prog w f m ρ tl hp os loc s) (hk : k v hp) (r : R ρ tl v v') (tk : Nat) :
    Q v' { s with toks := tk } := h v hp ρ tl os s.heap tk v' hk (Ext.refl _ _) x.1 x.2.1 r
theorem KE.ext {α β : Type} {R : List Addr → Led → α → β → Prop} {k : α → Hp → Prop} {Q : β → Shared → Prop} (h : KE prog w f m ρ tl s R k Q) {ρ' : List Addr} {tl' : Led} (e : Ext ρ tl ρ' tl') (h' : Heap) (tk : Nat) : KE prog w f m ρ' tl' { s with heap := h', toks := tk } R k Q :=
  fun v hp' ρ'' tl'' os' h'' tk' v' a b c d e' => h v hp' ρ'' tl'' os' h'' tk' v' a (e.trans b) c d e'
theorem At.moved (x : At prog w f m ρ tl hp os loc s) {ρ' : List Addr} {tl' : Led} {hp' : Hp} {os' : List Obj} {h' : Heap} (tk : Nat) (e : Ext ρ tl ρ' tl') (F : Fr f.h₀ f.L h' m) (H : HR prog w ρ' tl' hp' os' f.h₀ f.L h') : At prog w f m ρ' tl' hp' os' loc { s with heap := h', toks := tk } :=
  ⟨F, H, x.2.2.ext e⟩
theorem At.toks (x : At prog w f m ρ tl hp os loc s) (tk : Nat) : At prog w f m ρ tl hp os loc { s with toks := tk } := x
-- running a sub-expression: what follows
theorem run {α β γ δ : Type} {t : Sem β} {R : List Addr → Led → α → β → Prop} {k : α → Hp → Prop} {Q : γ → Shared → Prop} {R' : List Addr → Led → δ → γ → Prop} {k' : δ → Hp → Prop} {c : β → Sem γ} {A : Around}
    (x : At prog w f m ρ tl hp os loc s) (hQ : KE prog w f m ρ tl s R' k' Q)
    (sub : ∀ Q', KE prog w f m ρ tl s R k Q' → wpAny (model prog w) A t Q' NE s)
    (next : ∀ v v' ρ' tl' hp' os' h' tk', k v hp' → Ext ρ tl ρ' tl' → R ρ' tl' v v' → At prog w f m ρ' tl' hp' os' loc { s with heap := h', toks := tk' } → KE prog w f m ρ' tl' { s with heap := h', toks := tk' } R' k' Q → wpAny (model prog w) A (c v') Q NE { s with heap := h', toks := tk' }) :
    wpAny (model prog w) A t (fun v' s' => wpAny (model prog w) A (c v') Q NE s') NE s :=
  sub _ fun v hp' ρ' tl' os' h' tk' v' a b F H r => next v v' ρ' tl' hp' os' h' tk' a b r (x.moved tk' b F H) (hQ.ext b h' tk')

-- constants
theorem snd_const {c : Const} {i : Nat} {pos : Pos} {k : V → Hp → Prop} {Q : Value → Shared → Prop} {rec : Job → Prop} {cs : Scope} (h : stepE K rec cs (.Constant c i pos) loc hp k) (x : At prog w f m ρ tl hp os loc s) (hQ : KE prog w f m ρ tl s VR k Q) :
    wpAny (model prog w) f.A (eval (.Constant c i pos) f.env) Q NE s := by
  cases c with
  | int i => exact wpAny_Constant_int (hQ.use x h ⟨_, rfl⟩ _)
  | none => exact wpAny_Constant_none (hQ.use x h rfl s.toks)
  | bool b => exact wpAny_Constant_bool (hQ.use x h rfl s.toks)
  | str y => exact wpAny_Constant_str (hQ.use x h ⟨_, rfl⟩ _)
  | _ => exact h.elim

theorem biOf_ok {y : Str} {b : BI} (h : biOf y = some b) : bootBuiltins y = some (.builtin b.id) ∧ y ≠ Str.ofString "__name__" := by
  unfold biOf at h
  split at h
  · rename_i e; subst e; cases h; exact ⟨boot_len, by decide +kernel⟩
  · split at h
    · rename_i e; subst e; cases h; exact ⟨boot_abs, by decide +kernel⟩
    · split at h
      · rename_i e; subst e; cases h; exact ⟨boot_max, by decide +kernel⟩
      · split at h
        · rename_i e; subst e; cases h; exact ⟨boot_min, by decide +kernel⟩
        · cases h

theorem snd_name {y : Str} {pos : Pos} {k : V → Hp → Prop} {Q : Value → Shared → Prop} (ok : FmOk K p loose mean mg mb f n) (h : nameW K f.cs y loc fun v => k v hp) (x : At prog w f m ρ tl hp os loc s) (hQ : KE prog w f m ρ tl s VR k Q) :
    wpAny (model prog w) f.A (eval (.Name y pos) f.env) Q NE s := by
  obtain ⟨hd, h⟩ := need_of h
  have hd : (y == Str.ofString "__debug__") = false := by simpa using hd
  split at h
  · rename_i e
    split at h
    · rename_i v ev
      obtain ⟨v', h1, h2⟩ := x.2.2 y v ev
      exact nameX_L x.1 h1 (hQ.use x h h2 s.toks) ok.ck e hd
    · exact h.elim
  · rename_i e
    unfold globW at h
    split at h
    · rename_i i t ev
      exact nameX_K x.1 ok.X (topRead_of ok.T) ev (hQ.use x h ⟨t, rfl⟩ s.toks) ok.ck e hd
    · rename_i a ev
      exact nameX_K x.1 ok.X (topRead_of ok.T) ev (hQ.use x h rfl s.toks) ok.ck e hd
    · rename_i ev
      split at h
      · rename_i b eb
        obtain ⟨h1, h2⟩ := biOf_ok eb
        exact nameX_B x.1 ok.X (topRead_of ok.T) ev h1 h2 (hQ.use x h rfl s.toks) ok.ck e hd
      · exact h.elim
    · exact h.elim
  · exact h.elim

theorem small_bits {a : Int} (h : small a = true) : Builtin.Int.intBits a ≤ 64 := by
  unfold small at h
  simp only [Bool.and_eq_true, decide_eq_true_eq] at h
  exact intBits_le_64 (by omega) (by omega)
theorem mulB_ok {a b : Int} (h : mulB a b = true) : IntMulOk a b := by
  unfold mulB at h
  rcases Bool.or_eq_true_iff.mp h with h | h
  · exact IntMulOk.of_left (small_bits h)
  · exact IntMulOk.of_right (small_bits h)
theorem divB_ok {b : Int} (h : divB b = true) : b ≠ 0 ∧ b.natAbs.log2 < 9000 := by
  unfold divB at h
  simp only [Bool.and_eq_true, decide_eq_true_eq] at h
  refine ⟨by omega, ?_⟩
  have : b.natAbs < 2 ^ 200 := by omega
  exact Nat.lt_of_lt_of_le ((Nat.log2_lt (by omega)).mpr this) (by decide)

theorem snd_bin {op : Operator} {a b : V} {a' b' : Value} {k : V → Hp → Prop} {Q : Value → Shared → Prop} {A : Around} (h : binW op a b fun v => k v hp) (ra : VR ρ tl a a') (rb : VR ρ tl b b') (x : At prog w f m ρ tl hp os loc s) (hQ : KE prog w f m ρ tl s VR k Q) :
    wpAny (model prog w) A (binaryOp op a' b') Q NE s := by
  unfold binW at h
  split at h
  · obtain ⟨t, rfl⟩ := ra
    obtain ⟨u, rfl⟩ := rb
    split at h
    · exact add_int (hQ.use x h ⟨_, rfl⟩ _)
    · exact sub_int (hQ.use x h ⟨_, rfl⟩ _)
    · obtain ⟨h1, h⟩ := need_of h
      exact mul_int (hQ.use x h ⟨_, rfl⟩ _) (mulB_ok h1)
    · obtain ⟨h1, h⟩ := need_of h
      obtain ⟨h2, h3⟩ := divB_ok h1
      exact floordiv_int h2 (hQ.use x h ⟨_, rfl⟩ _) (.inl (PyProof.noPylong_of_log2 h3))
    · obtain ⟨h1, h⟩ := need_of h
      obtain ⟨h2, h3⟩ := divB_ok h1
      exact mod_int' h2 (hQ.use x h ⟨_, rfl⟩ _)
    · exact h.elim
  · exact h.elim

theorem snd_cmp {op : CmpOp} {a b : V} {a' b' : Value} {k : V → Hp → Prop} {Q : Value → Shared → Prop} {A : Around} (h : cmpW op a b fun v => k v hp) (ra : VR ρ tl a a') (rb : VR ρ tl b b') (x : At prog w f m ρ tl hp os loc s) (hQ : KE prog w f m ρ tl s VR k Q) :
    wpAny (model prog w) A (compareOp op a' b') Q NE s := by
  unfold cmpW at h
  split at h
  · obtain ⟨t, rfl⟩ := ra
    obtain ⟨u, rfl⟩ := rb
    split at h
    · exact eq_int (hQ.use x h rfl s.toks)
    · exact ne_int (hQ.use x h rfl s.toks)
    · exact lt_int (hQ.use x h rfl s.toks)
    · exact le_int (hQ.use x h rfl s.toks)
    · exact gt_int (hQ.use x h rfl s.toks)
    · exact ge_int (hQ.use x h rfl s.toks)
    · exact h.elim
  · obtain ⟨t, rfl⟩ := ra
    have rb : b' = .none := rb
    subst rb
    split at h
    · exact is_int_none (hQ.use x h rfl s.toks)
    · exact isnot_int_none (hQ.use x h rfl s.toks)
    · exact h.elim
  · have ra : a' = .none := ra
    have rb : b' = .none := rb
    subst ra; subst rb
    split at h
    · exact is_none_none (hQ.use x h rfl s.toks)
    · exact isnot_none_none (hQ.use x h rfl s.toks)
    · exact h.elim
  · exact h.elim
end
end Mine
end
section
namespace Mine
open PySem PySem.W PySem.Spec PySem.Calls PyProof.Rows

-- the entries of an object's dict
theorem getL_of {ρ : List Addr} {tl : Led} : ∀ {es : Loc} {des : List DictEntry} {a : Str}, F2 (fun (x : Str × V) (e : DictEntry) => (∃ t, e.key = .str x.1 t) ∧ VR ρ tl x.2 e.val) es des →
    (∀ v, es.lookup a = some v → ∃ v', getL a des = some (some v') ∧ VR ρ tl v v') ∧ (es.lookup a = none → getL a des = some none) := by
  intro es des a F
  have key : ∀ {x y : Str} {t : Tok}, (Value.str x t).isStr y = decide (x = y) := fun {x y t} => rfl
  induction F with
  | nil => exact ⟨fun v h => by simp at h, fun _ => rfl⟩
  | cons r _ ih =>
    rename_i x e l m _
    obtain ⟨⟨t, hk⟩, hv⟩ := r
    obtain ⟨y, z⟩ := x
    have hf : getL a (e :: m) = if y = a then some (some e.val) else getL a m := by
      unfold getL
      rw [List.find?_cons]
      have : e.key.isStr a = decide (y = a) := by rw [hk]; exact key
      rw [this]
      have hrk : e.refKey = false := by
        unfold DictEntry.refKey
        rw [hk]
      by_cases hy : y = a
      · simp [hy]
      · simp only [hy, decide_false, if_false]
        cases m.find? (fun x => x.key.isStr a) with
        | some _ => rfl
        | none => simp [hrk]
    rw [hf]
    by_cases hy : a = y
    · subst hy
      refine ⟨fun v h => ?_, fun h => ?_⟩
      · simp at h; subst h
        exact ⟨e.val, by simp, hv⟩
      · simp at h
    · have h2 : (a == y) = false := beq_false_of_ne hy
      have h3 : ¬ y = a := fun e => hy e.symm
      simp only [List.lookup_cons, h2, h3, if_false]
      exact ih
theorem putL_of {ρ : List Addr} {tl : Led} {a : Str} {v : V} {v' : Value} {hsh : Int} {t₀ : Tok} (rv : VR ρ tl v v') : ∀ {es : Loc} {des : List DictEntry}, F2 (fun (x : Str × V) (e : DictEntry) => (∃ t, e.key = .str x.1 t) ∧ VR ρ tl x.2 e.val) es des →
    F2 (fun (x : Str × V) (e : DictEntry) => (∃ t, e.key = .str x.1 t) ∧ VR ρ tl x.2 e.val) (putA a v es) (putL a hsh (.str a t₀) v' des) ∧ (putL a hsh (.str a t₀) v' des).length ≤ des.length + 1 := by
  intro es des F
  induction F with
  | nil => exact ⟨.cons ⟨⟨_, rfl⟩, rv⟩ .nil, Nat.le_refl _⟩
  | cons r tl' ih =>
    rename_i x e l m
    obtain ⟨⟨t, hk⟩, hv⟩ := r
    obtain ⟨y, z⟩ := x
    have hh : e.key.isStr a = decide (y = a) := by rw [hk]; rfl
    unfold putA putL
    by_cases hy : y = a
    · rw [if_pos hy, hh, if_pos (by simpa using hy)]
      exact ⟨.cons ⟨⟨t, hk⟩, rv⟩ tl', by simp⟩
    · rw [if_neg hy, hh, if_neg (by simpa using hy)]
      exact ⟨.cons ⟨⟨t, hk⟩, hv⟩ ih.1, by simpa using ih.2⟩

section
variable {prog : Program} {w : World} {K : Frag} {p : Program} {loose : List Str} {mean : ExcName → Option Value} {mg mb : Str → Option Value}
variable {f : Fm} {m : Str → Option Value} {ρ : List Addr} {tl : Led} {hp : Hp} {os : List Obj} {loc : Loc} {s : Shared} {n : Nat}

theorem inst_at (x : At prog w f m ρ tl hp os loc s) {i C d : Nat} {es : Loc} (h1 : hp[i]? = some (.inst C d)) (h2 : hp[d]? = some (.attrs es)) :
    ∃ a dx des nn, ρ[i]? = some a ∧ ρ[d]? = some dx ∧ os[d]? = some (dictOf des nn) ∧ F2 (fun (x : Str × V) (e : DictEntry) => (∃ t, e.key = .str x.1 t) ∧ VR ρ tl x.2 e.val) es des ∧ W.InstAt s.heap a (instObj C dx) C (some (dictOf des nn)) := by
  obtain ⟨a, ob, e1, e2, ⟨dx, e3, rfl⟩, e4⟩ := x.2.1.get h1
  obtain ⟨ob, e5, ⟨des, nn, rfl, e6⟩, e7⟩ := x.2.1.getA h2 e3
  exact ⟨a, dx, des, nn, e1, e3, e5, e6, InstAt.of_news x.2.1.news e4 e7⟩

theorem snd_attr {o : V} {o' : Value} {a : Str} {k : V → Prop} {Q : Value → Shared → Prop} {A : Around} (ok : FmOk K p loose mean mg mb f n) (h : attrW K o a hp k) (ro : VR ρ tl o o') (x : At prog w f m ρ tl hp os loc s) (hQ : ∀ v v' tk, k v → VR ρ tl v v' → Q v' { s with toks := tk }) :
    wpAny (model prog w) A (getAttr o' a true) Q NE s := by
  unfold attrW at h
  split at h
  · rename_i i
    split at h
    · rename_i C d e1
      split at h
      · rename_i es e2
        obtain ⟨h1, h⟩ := need_of h
        split at h
        · rename_i v e3
          obtain ⟨h4, h⟩ := need_of h
          obtain ⟨ax, dx, des, nn, r1, r2, r3, r4, r5⟩ := inst_at x e1 e2
          obtain ⟨ax', q1, rfl⟩ := ro
          rw [r1] at q1; cases q1
          obtain ⟨v', g1, g2⟩ := (getL_of r4).1 v e3
          unfold attrOk at h1
          simp only [Bool.and_eq_true] at h1
          obtain ⟨⟨b1, b2⟩, b3⟩ := h1
          split at b3
          · rename_i t e4
            refine get_own x.1 ok.X r5 b1 b2 e4 b3 g1 ?_ (hQ _ _ _ h g2)
            cases v with
            | int i => obtain ⟨t, rfl⟩ := g2; rfl
            | none => have g2 : v' = .none := g2; subst g2; rfl
            | _ => cases h4
          · cases b3
        · exact h.elim
      · exact h.elim
    · exact h.elim
  · exact h.elim

-- what follows a store
def KU (prog : Program) (w : World) (f : Fm) (m : Str → Option Value) (ρ : List Addr) (tl : Led) (s : Shared) (k : Hp → Prop) (Q : Shared → Prop) : Prop :=
  ∀ hp' os' h' tk', k hp' → Fr f.h₀ f.L h' m → HR prog w ρ tl hp' os' f.h₀ f.L h' → Q { s with heap := h', toks := tk' }

theorem snd_set {o v : V} {o' v' : Value} {a : Str} {k : Hp → Prop} {Q : Shared → Prop} {A : Around} (ok : FmOk K p loose mean mg mb f n) (h : setW K o a v hp k) (ro : VR ρ tl o o') (rv : VR ρ tl v v') (x : At prog w f m ρ tl hp os loc s) (hQ : KU prog w f m ρ tl s k Q) :
    wpAny (model prog w) A (setAttr o' a v') (fun _ s' => Q s') NE s := by
  unfold setW at h
  split at h
  · rename_i i
    split at h
    · rename_i C d e1
      split at h
      · rename_i es e2
        obtain ⟨h1, h⟩ := need_of h
        obtain ⟨ax, dx, des, nn, r1, r2, r3, r4, r5⟩ := inst_at x e1 e2
        obtain ⟨ax', q1, rfl⟩ := ro
        rw [r1] at q1; cases q1
        unfold setOk at h1
        simp only [Bool.and_eq_true, beq_iff_eq, decide_eq_true_eq] at h1
        obtain ⟨⟨⟨⟨b1, b2⟩, b3⟩, b4⟩, b5⟩ := h1
        have hl : (getL a des).isSome = true := by
          cases e : es.lookup a with
          | none => rw [(getL_of r4).2 e]; rfl
          | some u => obtain ⟨u', g1, _⟩ := (getL_of r4).1 u e; rw [g1]; rfl
        have P := putL_of (a := a) (hsh := PyData.keyHash w.params a) (t₀ := s.toks + 1) rv r4
        refine set_dict (es := des) (n := nn) x.1 ok.X x.2.1.news r5 rfl b1 b2 b3 b4 hl rfl (upd_zip (dictOf (putL a (PyData.keyHash w.params a) (.str a (s.toks + 1)) v' des) (putN a des nn)) x.2.1.nd r2 r3) ?_ fun h' F' N' => ?_
        · have := P.2
          have := r4.length
          omega
        · exact hQ _ _ h' _ h F' (x.2.1.put (o := .attrs (putA a v es)) ⟨_, _, rfl, P.1⟩ N')
      · exact h.elim
    · exact h.elim
  · exact h.elim

-- dict: read, store
theorem valueAt_of {R : V → Value → Prop} {a : Str} : ∀ {es : Loc} {kvs : List (Str × Value)}, F2 (fun (x : Str × V) (kv : Str × Value) => kv.1 = x.1 ∧ R x.2 kv.2) es kvs → ∀ v, es.lookup a = some v → ∃ v', valueAt kvs a = some v' ∧ R v v' := by
  intro es kvs F
  induction F with
  | nil => intro v h; simp at h
  | cons r _ ih =>
    rename_i x kv l m _
    obtain ⟨hk, hv⟩ := r
    obtain ⟨y, z⟩ := x
    obtain ⟨y', z'⟩ := kv
    have hk : y' = y := hk
    subst hk
    intro v h
    by_cases hy : a = y'
    · subst hy
      simp at h; subst h
      exact ⟨z', by simp [valueAt], hv⟩
    · have h2 : (a == y') = false := beq_false_of_ne hy
      have h3 : ¬ y' = a := fun e => hy e.symm
      simp only [List.lookup_cons, h2] at h
      obtain ⟨v', g1, g2⟩ := ih v h
      refine ⟨v', ?_, g2⟩
      unfold valueAt at g1 ⊢
      simpa [h3] using g1
theorem stored_of {R : V → Value → Prop} {a : Str} {v : V} {v' : Value} (rv : R v v') {es : Loc} {kvs : List (Str × Value)} (F : F2 (fun (x : Str × V) (kv : Str × Value) => kv.1 = x.1 ∧ R x.2 kv.2) es kvs) :
    F2 (fun (x : Str × V) (kv : Str × Value) => kv.1 = x.1 ∧ R x.2 kv.2) (putD a v es) (stored kvs a v') := by
  have h1 : es.any (fun x => decide (x.1 = a)) = kvs.any (fun kv => decide (kv.1 = a)) := by
    induction F with
    | nil => rfl
    | cons r _ ih => simp only [List.any_cons, r.1, ih]
  unfold putD stored
  rw [h1]
  split
  · clear h1
    rename_i hx
    clear hx
    induction F with
    | nil => exact .nil
    | cons r _ ih =>
      refine .cons ?_ ih
      rename_i x kv _ _ _
      dsimp only
      by_cases hy : x.1 = a
      · rw [if_pos hy, if_pos (r.1.trans hy)]; exact ⟨r.1, rv⟩
      · rw [if_neg hy, if_neg (fun e => hy (r.1.symm.trans e))]; exact r
  · exact F.append (.cons ⟨rfl, rv⟩ .nil)
theorem merged_of {R : V → Value → Prop} : ∀ {more : Loc} {mk : List (Str × Value)}, F2 (fun (x : Str × V) (kv : Str × Value) => kv.1 = x.1 ∧ R x.2 kv.2) more mk → ∀ {es : Loc} {kvs : List (Str × Value)}, F2 (fun (x : Str × V) (kv : Str × Value) => kv.1 = x.1 ∧ R x.2 kv.2) es kvs →
    F2 (fun (x : Str × V) (kv : Str × Value) => kv.1 = x.1 ∧ R x.2 kv.2) (mergeD es more) (merged kvs mk) := by
  intro more mk M
  induction M with
  | nil => intro es kvs F; exact F
  | cons r _ ih =>
    intro es kvs F
    unfold mergeD merged
    rw [List.foldl_cons, List.foldl_cons]
    have e := r.1
    refine ih (by rw [e]; exact stored_of r.2 F)

theorem snd_dictSet {o v : V} {o' v' : Value} {y : Str} {t : Tok} {k : Hp → Prop} {Q : Shared → Prop} {A : Around} (h : dictSetW o y v hp k) (ro : VR ρ tl o o') (rv : VR ρ tl v v') (x : At prog w f m ρ tl hp os loc s) (hQ : KU prog w f m ρ tl s k Q) :
    wpAny (model prog w) A (setItem o' (.str y t) v') (fun _ s' => Q s') NE s := by
  unfold dictSetW at h
  split at h
  · rename_i i
    split at h
    · rename_i es e1
      obtain ⟨h1, h⟩ := need_of h
      obtain ⟨ax, ob, q1, q2, ⟨kvs, q3, q4⟩, q5⟩ := x.2.1.get e1
      obtain ⟨ax', q6, rfl⟩ := ro
      rw [q1] at q6; cases q6
      have hl := q4.length
      have h1 : es.length < 100 := by simpa using h1
      refine kda_set (knd := PySem.strKind prog w) (k := y) x.1 x.2.1.news (updF_zip x.2.1.nd q1 q2) q3 (strKind_is prog w y t) (by rw [sizeLine_eq]; omega) fun h' o'' F' N' hd => ?_
      exact hQ _ _ h' _ h F' (x.2.1.put (o := .dict (putD y v es)) ⟨_, hd, stored_of (R := VR ρ tl) rv q4⟩ N')
    · exact h.elim
  · exact h.elim

theorem ki_setL_of {l : List Value} {v : Value} : ∀ {i : Nat}, i < l.length → ki_setL l i v = some (l.set i v) := by
  induction l with
  | nil => intro i h; simp at h
  | cons a l ih =>
    intro i h
    cases i with
    | zero => rfl
    | succ i =>
      have h : i < l.length := by simpa using h
      show (match ki_setL l i v with | some q => some (a :: q) | none => none) = _
      rw [ih h]
      rfl
theorem snd_listSet {o v : V} {o' v' : Value} {j : Int} {t : Tok} {k : Hp → Prop} {Q : Shared → Prop} {A : Around} (h : listSetW o j v hp k) (ro : VR ρ tl o o') (rv : VR ρ tl v v') (x : At prog w f m ρ tl hp os loc s) (hQ : KU prog w f m ρ tl s k Q) :
    wpAny (model prog w) A (setItem o' (.int j t) v') (fun _ s' => Q s') NE s := by
  unfold listSetW at h
  split at h
  · rename_i i
    split at h
    · rename_i vs e1
      obtain ⟨h1, h⟩ := need_of h
      obtain ⟨ax, ob, q1, q2, ⟨its, nn, rfl, q4⟩, q5⟩ := x.2.1.get e1
      obtain ⟨ax', q6, rfl⟩ := ro
      rw [q1] at q6; cases q6
      have hl := q4.length
      simp only [Bool.and_eq_true, decide_eq_true_eq] at h1
      have hj : j.toNat < its.length := by rw [← hl]; exact h1.2
      refine ki_set (its := its.toArray) (n := nn) (q := its.set j.toNat v') x.1 x.2.1.news h1.1.1 h1.1.2 (ki_setL_of hj) (upd_zip _ x.2.1.nd q1 q2) fun h' F' N' => ?_
      exact hQ _ _ h' _ h F' (x.2.1.put (o := .list (vs.set j.toNat v)) ⟨_, _, rfl, q4.set rv⟩ N')
    · exact h.elim
  · exact h.elim
end
end Mine
end
section
namespace Mine
open PySem PySem.W PySem.Spec PySem.Calls PyProof.Rows

theorem subscripted_of {e : Expr} (h : plainIx e = true) (o i : Value) : subscripted e false o i = operate [o, i] (getItem o i) := by
  cases e <;> first | rfl | cases h
theorem starEach_of {e : Expr} {rest : List Expr} {env : Env} (h : notStar e = true) : starEach (e :: rest) env = (false, eval e env) :: starEach rest env := by
  cases e <;> first | rfl | cases h
theorem letGo_of {e : Expr} {o r : Value} (h : isName e = true) : letTemporaryGo e o r = pure () := by
  cases e <;> first | rfl | cases h

section
variable {prog : Program} {w : World} {K : Frag} {p : Program} {loose : List Str} {mean : ExcName → Option Value} {mg mb : Str → Option Value}
variable {f : Fm} {m : Str → Option Value} {ρ : List Addr} {tl : Led} {hp : Hp} {os : List Obj} {loc : Loc} {s : Shared} {n : Nat}

theorem snd_sub {o i : V} {o' i' : Value} {vE sE : Expr} {k : V → Hp → Prop} {Q : Value → Shared → Prop} {A : Around} (hs : plainIx sE = true) (h : subW (isName vE) o i hp fun v => k v hp) (ro : VR ρ tl o o') (ri : VR ρ tl i i') (x : At prog w f m ρ tl hp os loc s) (hQ : KE prog w f m ρ tl s VR k Q) :
    wpAny (model prog w) A (subscriptTail vE sE o' i') Q NE s := by
  unfold subW at h
  split at h
  · rename_i a y
    split at h
    · rename_i es e1
      obtain ⟨h1, h⟩ := need_of h
      split at h
      · rename_i v e2
        obtain ⟨ax, ob, q1, q2, ⟨kvs, q3, q4⟩, q5⟩ := x.2.1.get e1
        obtain ⟨ax', q6, rfl⟩ := ro
        rw [q1] at q6; cases q6
        obtain ⟨t, rfl⟩ := ri
        obtain ⟨v', g1, g2⟩ := valueAt_of (R := VR ρ tl) q4 v e2
        exact kda_item (knd := PySem.strKind prog w) (k := y) x.2.1.news q5 q3 (strKind_is prog w y t) g1 (hQ.use x h g2 _) (subscripted_of hs _ _) (fun _ => letGo_of h1)
      · exact h.elim
    · exact h.elim
  · rename_i a j
    split at h
    · rename_i vs e1
      obtain ⟨h1, h⟩ := need_of h
      split at h
      · rename_i v e2
        obtain ⟨ax, ob, q1, q2, ⟨its, nn, rfl, q4⟩, q5⟩ := x.2.1.get e1
        obtain ⟨ax', q6, rfl⟩ := ro
        rw [q1] at q6; cases q6
        obtain ⟨t, rfl⟩ := ri
        obtain ⟨v', g1, g2⟩ := q4.get e2
        simp only [Bool.and_eq_true, decide_eq_true_eq] at h1
        exact item_litK (vs := its) (x.2.1.news.isList q5) h1.1 h1.2 g1 (hQ.use x h g2 s.toks) (subscripted_of hs _ _)
      · exact h.elim
    · rename_i ns e1
      obtain ⟨h1, h⟩ := need_of h
      obtain ⟨ax, ob, q1, q2, ⟨its, nn, rfl, q4⟩, q5⟩ := x.2.1.get e1
      obtain ⟨ax', q6, rfl⟩ := ro
      rw [q1] at q6; cases q6
      obtain ⟨t, rfl⟩ := ri
      simp only [Bool.and_eq_true, decide_eq_true_eq] at h1
      exact ksa_sub x.2.1.news q5 q4 h1.1.1 h1.1.2 h1.2 (fun t => hQ.use x h ⟨t, rfl⟩ s.toks) (subscripted_of hs _ _)
    · exact h.elim
  · rename_i a b j
    obtain ⟨h1, h⟩ := need_of h
    obtain ⟨q, t, u, rfl, hm⟩ := ro
    obtain ⟨t', rfl⟩ := ri
    have hN := x.2.1.news.isTup (List.mem_append_right _ hm)
    simp only [Bool.and_eq_true, decide_eq_true_eq] at h1
    by_cases hj : j = 0
    · subst hj
      exact item_tupleT (l := [.int a t, .int b u]) (j := 0) (x := .int a t) hN (by decide) (by decide) (by show seqIndex? 0 2 = some 0; decide) rfl (hQ.use x h ⟨t, rfl⟩ s.toks) (subscripted_of hs _ _)
    · obtain rfl : j = 1 := by omega
      exact item_tupleT (l := [.int a t, .int b u]) (j := 1) (x := .int b u) hN (by decide) (by decide) (by show seqIndex? 1 2 = some 1; decide) rfl (hQ.use x h ⟨u, rfl⟩ s.toks) (subscripted_of hs _ _)
  · exact h.elim

-- objects that are not turned: put beside
theorem snd_newTuple {vs : List Value} {Q : Value → Shared → Prop} {A : Around} (x : At prog w f m ρ tl hp os loc s) (hl : vs.length ≤ 100)
    (h : ∀ p h', At prog w f m ρ ((p, { cls := .type "tuple", data := .seq vs.toArray }) :: tl) hp os loc { s with heap := h' } → Ext ρ tl ρ ((p, { cls := .type "tuple", data := .seq vs.toArray }) :: tl) → Q (.ref p) { s with heap := h' }) :
    wpAny (model prog w) A (newTuple vs) Q NE s := by
  refine kup_newTuple x.1 x.2.1.news (fun D h' F' N' lt => ?_) (by rw [sizeLine_eq]; omega)
  have e : Ext ρ tl ρ ((D, { cls := .type "tuple", data := .seq vs.toArray }) :: tl) := ⟨fun _ _ h => h, fun _ h => .tail _ h⟩
  exact h D h' ⟨F', x.2.1.addTup N' lt, x.2.2.ext e⟩ e
theorem snd_newList {vs : List Value} {Q : Value → Shared → Prop} {A : Around} (x : At prog w f m ρ tl hp os loc s) (hl : vs.length ≤ 100)
    (h : ∀ p h', At prog w f m ρ ((p, W.listOf vs.toArray 0) :: tl) hp os loc { s with heap := h' } → Ext ρ tl ρ ((p, W.listOf vs.toArray 0) :: tl) → Q (.ref p) { s with heap := h' }) :
    wpAny (model prog w) A (newList vs) Q NE s := by
  refine newList_K x.1 x.2.1.news (fun D h' F' N' lt => ?_) (by rw [sizeLine_eq]; omega)
  have e : Ext ρ tl ρ ((D, W.listOf vs.toArray 0) :: tl) := ⟨fun _ _ h => h, fun _ h => .tail _ h⟩
  exact h D h' ⟨F', x.2.1.addTup N' lt, x.2.2.ext e⟩ e

-- data of pairs
def pd (q : Int × Int) : PyData := .tuple [.int q.1, .int q.2]
theorem pd_canLayAll : ∀ ps : List (Int × Int), PyData.canLayAll0 (ps.map pd) = true
  | [] => rfl
  | q :: r => by simp [PyData.canLayAll0, PyData.canLay0, pd, pd_canLayAll r]
theorem pd_depthAll : ∀ ps : List (Int × Int), PyData.depthAll (ps.map pd) ≤ 1
  | [] => by simp [PyData.depthAll]
  | q :: r => by
    have := pd_depthAll r
    simp only [List.map_cons, PyData.depthAll, pd, PyData.depth]
    omega
theorem pd_shaped (ps : List (Int × Int)) : SeqAt.shaped (.list (ps.map pd)) = true := by
  have h := pd_depthAll ps
  have h2 : PyData.depth (.list (ps.map pd)) ≤ 64 := by
    simp only [PyData.depth]
    omega
  unfold SeqAt.shaped
  rw [Bool.and_eq_true]
  exact ⟨by simp only [PyData.canLay0, pd_canLayAll], decide_eq_true h2⟩
theorem pd_shaped1 (q : Int × Int) : SeqAt.shaped (pd q) = true := by
  simp [SeqAt.shaped, pd, PyData.canLay0, PyData.canLayAll0, PyData.depth, PyData.depthAll]
theorem pd_reads {h₀ : Heap} {L : Addr} {h : Heap} (N : News h₀ L h (ρ.zip os ++ tl)) : ∀ {ps : List (Int × Int)} {its : List Value}, F2 (fun (q : Int × Int) v => VR ρ tl (.pair q.1 q.2) v) ps its → ∃ as, ReadsAll h its (ps.map pd) as := by
  intro ps its F
  induction F with
  | nil => exact ⟨[], .nil⟩
  | cons r _ ih =>
    obtain ⟨as, ih⟩ := ih
    obtain ⟨q, t, u, rfl, hm⟩ := r
    exact ⟨_, .cons (reads_tuple_at (N.get (List.mem_append_right _ hm)) rfl rfl (.cons (.int _ t) (.cons (.int _ u) .nil))) ih⟩
theorem eqv_nil : ∀ ps : List (Int × Int), PyData.eqv (.list (ps.map pd)) (.list []) = ps.isEmpty
  | [] => by simp [PyData.eqv, PyData.eqvAll]
  | _ :: _ => by simp [PyData.eqv, PyData.eqvAll]
theorem eqv_pair (a b c d : Int) : PyData.eqv (pd (a, b)) (pd (c, d)) = (a == c && b == d) := by
  simp [PyData.eqv, PyData.eqvAll, pd]
theorem room64 (ok : FmOk K p loose mean mg mb f n) : f.A.units + 64 < cLine := by
  have := ok.u
  show f.un + 64 < cLine
  omega

theorem snd_cmpNil {op : CmpOp} {i : Nat} {ps : List (Int × Int)} {o' : Value} {q : Addr} {k : V → Hp → Prop} {Q : Value → Shared → Prop} (ok : FmOk K p loose mean mg mb f n) (e : hp[i]? = some (.pairs ps))
    (h : match op with | .Eq => k (.bool ps.isEmpty) hp | .NotEq => k (.bool (!ps.isEmpty)) hp | _ => False) (ro : VR ρ tl (.ref i) o') (hq : (q, W.listOf [].toArray 0) ∈ tl) (x : At prog w f m ρ tl hp os loc s) (hQ : KE prog w f m ρ tl s VR k Q) :
    wpAny (model prog w) f.A (compareOp op o' (.ref q)) Q NE s := by
  obtain ⟨ax, ob, q1, q2, ⟨its, nn, rfl, q4⟩, q5⟩ := x.2.1.get e
  obtain ⟨ax', q6, rfl⟩ := ro
  rw [q1] at q6; cases q6
  obtain ⟨as, R⟩ := pd_reads x.2.1.news q4
  have Ra := reads_list_at (x.2.1.news.get q5) rfl rfl R
  have Rb : Reads s.heap (.ref q) (.list []) [q] := reads_list_at (x.2.1.news.get (List.mem_append_right _ hq)) rfl rfl .nil
  split at h
  · exact eq_dataH Ra Rb (pd_shaped _) rfl (room64 ok) (by rw [eqv_nil]; exact hQ.use x h rfl s.toks)
  · exact ne_dataH Ra Rb (pd_shaped _) rfl (room64 ok) (by rw [eqv_nil]; exact hQ.use x h rfl s.toks)
  · exact h.elim

theorem snd_cmpTup {a b c d : Int} {q r : Addr} {t1 t2 t3 t4 : Tok} {k : V → Hp → Prop} {Q : Value → Shared → Prop} (ok : FmOk K p loose mean mg mb f n) (h : k (.bool (!(a == c && b == d))) hp)
    (hq : (q, tupO (.int a t1) (.int b t2)) ∈ tl) (hr : (r, tupO (.int c t3) (.int d t4)) ∈ tl) (x : At prog w f m ρ tl hp os loc s) (hQ : KE prog w f m ρ tl s VR k Q) :
    wpAny (model prog w) f.A (compareOp .NotEq (.ref q) (.ref r)) Q NE s := by
  have Ra : Reads s.heap (.ref q) (pd (a, b)) _ := reads_tuple_at (x.2.1.news.get (List.mem_append_right _ hq)) rfl rfl (.cons (.int _ t1) (.cons (.int _ t2) .nil))
  have Rb : Reads s.heap (.ref r) (pd (c, d)) _ := reads_tuple_at (x.2.1.news.get (List.mem_append_right _ hr)) rfl rfl (.cons (.int _ t3) (.cons (.int _ t4) .nil))
  exact ne_dataH Ra Rb (pd_shaped1 _) (pd_shaped1 _) (room64 ok) (by rw [eqv_pair]; exact hQ.use x h rfl s.toks)
end
end Mine
end
section
namespace Mine
open PySem PySem.W PySem.Spec PySem.Calls PyProof.Rows

section
variable {prog : Program} {w : World} {K : Frag} {p : Program} {loose : List Str} {mean : ExcName → Option Value} {mg mb : Str → Option Value}
variable {f : Fm} {m : Str → Option Value} {ρ : List Addr} {tl : Led} {hp : Hp} {os : List Obj} {loc : Loc} {s : Shared} {n : Nat} {rec : Job → Prop}

-- the hypothesis of the induction, job by job
def IH (prog : Program) (w : World) (K : Frag) (p : Program) (loose : List Str) (mean : ExcName → Option Value) (mg mb : Str → Option Value) (n : Nat) (rec : Job → Prop) : Prop := ∀ j, rec j → Snd prog w K p loose mean mg mb n j

theorem IH.ex (ih : IH prog w K p loose mean mg mb n rec) (ok : FmOk K p loose mean mg mb f n) {e : Expr} {k : V → Hp → Prop} {Q : Value → Shared → Prop} (h : rec (.ex f.cs e loc hp k)) (x : At prog w f m ρ tl hp os loc s)
    (hQ : ∀ v v' ρ' tl' os' hp' h' tk', k v hp' → Ext ρ tl ρ' tl' → VR ρ' tl' v v' → At prog w f m ρ' tl' hp' os' loc { s with heap := h', toks := tk' } → Q v' { s with heap := h', toks := tk' }) :
    wpAny (model prog w) f.A (eval e f.env) Q NE s :=
  ih _ h f rfl ok m ρ tl os s Q x fun v hp' ρ' tl' os' h' tk' v' a b F H r => hQ v v' ρ' tl' os' hp' h' tk' a b r (x.moved tk' b F H)
theorem IH.tst (ih : IH prog w K p loose mean mg mb n rec) (ok : FmOk K p loose mean mg mb f n) {e : Expr} {k : Bool → Hp → Prop} {Q : Bool → Shared → Prop} (h : rec (.tst f.cs e loc hp k)) (x : At prog w f m ρ tl hp os loc s)
    (hQ : ∀ v ρ' tl' os' hp' h' tk', k v hp' → Ext ρ tl ρ' tl' → At prog w f m ρ' tl' hp' os' loc { s with heap := h', toks := tk' } → Q v { s with heap := h', toks := tk' }) :
    wpAny (model prog w) f.A (PySem.isTrue e f.env (eval e f.env)) Q NE s :=
  ih _ h f rfl ok m ρ tl os s Q x fun v hp' ρ' tl' os' h' tk' v' a b F H r => by
    have r : v = v' := r
    subst r
    exact hQ v ρ' tl' os' hp' h' tk' a b (x.moved tk' b F H)
theorem IH.args (ih : IH prog w K p loose mean mg mb n rec) (ok : FmOk K p loose mean mg mb f n) {es : List Expr} {k : List V → Hp → Prop} {Q : List Value → Shared → Prop} (h : rec (.args f.cs es loc hp k)) (x : At prog w f m ρ tl hp os loc s) (pos : Pos)
    (hQ : ∀ v v' ρ' tl' os' hp' h' tk', k v hp' → Ext ρ tl ρ' tl' → F2 (VR ρ' tl') v v' → At prog w f m ρ' tl' hp' os' loc { s with heap := h', toks := tk' } → Q v' { s with heap := h', toks := tk' }) :
    wpAny (model prog w) f.A (spliced (backTo pos (starEach es f.env))) Q NE s :=
  ih _ h f rfl ok pos m ρ tl os s Q x fun v hp' ρ' tl' os' h' tk' v' a b F H r => hQ v v' ρ' tl' os' hp' h' tk' a b r (x.moved tk' b F H)
theorem IH.call (ih : IH prog w K p loose mean mg mb n rec) (ok : FmOk K p loose mean mg mb f n) {g : V} {vs : List V} {g' : Value} {vs' : List Value} {k : V → Hp → Prop} {Q : Value → Shared → Prop} (h : rec (.call g vs hp k)) (x : At prog w f m ρ tl hp os loc s) (rg : VR ρ tl g g') (rv : F2 (VR ρ tl) vs vs')
    (hQ : KE prog w f m ρ tl s VR k Q) : wpAny (model prog w) f.A (call g' vs') Q NE s :=
  ih _ h f ok m ρ tl os s g' vs' Q ⟨x.1, x.2.1, fun _ _ q => by simp at q⟩ rg rv hQ
-- an answer
theorem At.ans {α β : Type} {R : List Addr → Led → α → β → Prop} {k : α → Hp → Prop} {Q : β → Shared → Prop} {ρ' : List Addr} {tl' : Led} {os' : List Obj} {hp' : Hp} {h' : Heap} {tk' : Nat} {v : α} {v' : β}
    (hQ : KE prog w f m ρ tl s R k Q) (e : Ext ρ tl ρ' tl') (x : At prog w f m ρ' tl' hp' os' loc { s with heap := h', toks := tk' }) (hk : k v hp') (r : R ρ' tl' v v') (h'' : Heap := h') (tk : Nat := tk') (_ : h'' = h' := by rfl) : Q v' { s with heap := h', toks := tk } :=
  hQ v hp' ρ' tl' os' h' tk v' hk e x.1 x.2.1 r

theorem sound_args {es : List Expr} {k : List V → Hp → Prop} (ih : IH prog w K p loose mean mg mb n rec) (h : stepA rec cs es loc hp k) : Snd prog w K p loose mean mg mb (n + 1) (.args cs es loc hp k) := by
  rintro f rfl ok pos m ρ tl os s Q x hQ
  cases es with
  | nil => exact args_nil (hQ [] hp ρ tl os s.heap s.toks [] h (Ext.refl _ _) x.1 x.2.1 .nil)
  | cons e r =>
    obtain ⟨h1, h⟩ := need_of h
    refine args_cons (ih.ex ok.pred h x fun v v' ρ' tl' os' hp' h' tk' a b rv x' => ?_) (starEach_of h1)
    exact ih.args ok.pred a x' pos fun vs vs' ρ'' tl'' os'' hp'' h'' tk'' a2 b2 rv2 x'' => hQ (v :: vs) hp'' ρ'' tl'' os'' h'' tk'' (v' :: vs') a2 (b.trans b2) x''.1 x''.2.1 (.cons (rv.ext b2) rv2)

theorem sound_prs {ks : List (Option Expr)} {es : List Expr} {k : List (Str × V) → Hp → Prop} (ih : IH prog w K p loose mean mg mb n rec) (h : stepP rec cs ks es loc hp k) : Snd prog w K p loose mean mg mb (n + 1) (.prs cs ks es loc hp k) := by
  rintro f rfl ok pos m ρ tl os s Q x hQ
  unfold stepP at h
  split at h
  · exact wpAny_pure (hQ [] hp ρ tl os s.heap s.toks [] h (Ext.refl _ _) x.1 x.2.1 .nil)
  · rename_i y i q kr e r
    show wpAny (model prog w) f.A (evalPairs ((eval (.Constant (.str y) i q) f.env, do let x ← eval e f.env; standAt pos; pure x) :: pairTrees kr r f.env pos)) Q NE s
    refine wpAny_bind (wpAny_Constant_str (wpAny_bind (wpAny_holding (wpAny_bind ?_))))
    refine ih.ex ok.pred h (x.toks (s.toks + 1)) fun v v' ρ' tl' os' hp' h' tk' a b rv x' => wpAny_bind (wpAny_standAt (wpAny_pure ?_))
    refine wpAny_bind (wpAny_holding ?_)
    refine ih _ a f rfl ok.pred pos m ρ' tl' os' _ _ x' fun vs hp'' ρ'' tl'' os'' h'' tk'' vs' a2 b2 F H rv2 => wpAny_pure ?_
    exact hQ ((y, v) :: vs) hp'' ρ'' tl'' os'' h'' tk'' _ a2 (b.trans b2) F H (.cons ⟨⟨_, rfl⟩, rv.ext b2⟩ rv2)
  · exact h.elim

-- a comparison: its two sides, then the word
theorem snd_cmpE {l r : Expr} {op : CmpOp} {k : V → Hp → Prop} {Q : Value → Shared → Prop} (ih : IH prog w K p loose mean mg mb n rec) (ok : FmOk K p loose mean mg mb f n) (h : cmpE rec f.cs l op r loc hp k) (x : At prog w f m ρ tl hp os loc s) (hQ : KE prog w f m ρ tl s VR k Q) :
    behindInMarks op r = false ∧ wpAny (model prog w) f.A (eval l f.env) (fun a s₁ => wpAny (model prog w) f.A (eval r f.env) (fun b s₂ => wpAny (model prog w) f.A (compareOp op a b) Q NE s₂) NE s₁) NE s := by
  unfold cmpE at h
  split at h
  · rename_i er
    have er : ∃ q, r = .List [] q := by
      unfold emptyL at er
      split at er
      · exact ⟨_, rfl⟩
      · cases er
    obtain ⟨q, rfl⟩ := er
    refine ⟨rfl, ih.ex ok h x fun v v' ρ' tl' os' hp' h' tk' a b rv x' => ?_⟩
    refine List_ (args_nil (snd_newList x' (by simp) fun D h'' x'' e'' => ?_))
    split at a
    · rename_i i
      split at a
      · rename_i ps e1
        have hQ'' := hQ.ext (b.trans e'') h'' tk'
        exact snd_cmpNil ok e1 a (rv.ext e'') (.head _) x'' hQ''
      · exact a.elim
    · exact a.elim
  · split at h
    · rename_i a b c d el er
      have el : ∃ i q, l = .Tuple [a, b] i q := by
        unfold tup2 at el
        split at el
        · cases el; exact ⟨_, _, rfl⟩
        · cases el
      have er : ∃ i q, r = .Tuple [c, d] i q := by
        unfold tup2 at er
        split at er
        · cases er; exact ⟨_, _, rfl⟩
        · cases er
      obtain ⟨i1, q1, rfl⟩ := el
      obtain ⟨i2, q2, rfl⟩ := er
      obtain ⟨h1, h⟩ := need_of h
      simp only [Bool.and_eq_true] at h1
      obtain ⟨⟨⟨na, nb⟩, nc⟩, nd⟩ := h1
      refine ⟨rfl, Tuple_ (args_cons (ih.ex ok h x fun va va' ρ1 tl1 os1 hp1 g1 t1 a1 b1 r1 x1 => ?_) (starEach_of na))⟩
      refine args_cons (ih.ex ok a1 x1 fun vb vb' ρ2 tl2 os2 hp2 g2 t2 a2 b2 r2 x2 => ?_) (starEach_of nb)
      refine args_nil (snd_newTuple x2 (by simp) fun D h2 x2' e2' => ?_)
      refine Tuple_ (args_cons (ih.ex ok a2 x2' fun vc vc' ρ3 tl3 os3 hp3 g3 t3 a3 b3 r3 x3 => ?_) (starEach_of nc))
      refine args_cons (ih.ex ok a3 x3 fun vd vd' ρ4 tl4 os4 hp4 g4 t4 a4 b4 r4 x4 => ?_) (starEach_of nd)
      refine args_nil (snd_newTuple x4 (by simp) fun D' h4 x4' e4' => ?_)
      split at a4
      · split at a4
        · have q1 := r1.ext (b2.trans (e2'.trans (b3.trans (b4.trans e4'))))
          have q2 := r2.ext (e2'.trans (b3.trans (b4.trans e4')))
          have q3 := r3.ext (b4.trans e4')
          have q4 := r4.ext e4'
          obtain ⟨u1, rfl⟩ := q1
          obtain ⟨u2, rfl⟩ := q2
          obtain ⟨u3, rfl⟩ := q3
          obtain ⟨u4, rfl⟩ := q4
          exact snd_cmpTup ok a4 ((b3.trans (b4.trans e4')).t _ (.head _)) (.head _) x4' (hQ.ext (b1.trans (b2.trans (e2'.trans (b3.trans (b4.trans e4'))))) h4 t4)
        · exact a4.elim
      · exact a4.elim
    · obtain ⟨h1, h⟩ := need_of h
      refine ⟨(by cases r <;> first | rfl | cases h1), ih.ex ok h x fun v v' ρ' tl' os' hp' h' tk' a b rv x' => ?_⟩
      refine ih.ex ok a x' fun v2 v2' ρ'' tl'' os'' hp'' h'' tk'' a2 b2 rv2 x'' => ?_
      exact snd_cmp a2 (rv.ext b2) rv2 x'' ((hQ.ext b h' tk').ext b2 h'' tk'')
    · exact h.elim
end
end Mine
end
section
namespace Mine
open PySem PySem.W PySem.Spec PySem.Calls PyProof.Rows

theorem nodupB_ok : ∀ {l : List Str}, nodupB l = true → l.Nodup
  | [], _ => List.nodup_nil
  | x :: r, h => by
    unfold nodupB at h
    rw [Bool.and_eq_true] at h
    rw [List.nodup_cons]
    exact ⟨by simpa using h.1, nodupB_ok h.2⟩
theorem fm_congr {α β : Type} {g h : α → Option β} : ∀ {l : List α}, (∀ y ∈ l, g y = h y) → l.filterMap g = l.filterMap h
  | [], _ => rfl
  | a :: l, q => by rw [List.filterMap_cons, List.filterMap_cons, q a (.head _), fm_congr fun y hy => q y (.tail _ hy)]
theorem zip_lookup {vs : List Value} : ∀ {names : List Str}, names.Nodup → names.length = vs.length → names.filterMap (fun n => ((names.zip vs).lookup n).map (n, ·)) = names.zip vs := by
  induction vs with
  | nil => intro names _ h; cases names with | nil => rfl | cons _ _ => simp at h
  | cons v vs ih =>
    intro names nd h
    cases names with
    | nil => simp at h
    | cons n names =>
      rw [List.nodup_cons] at nd
      have h : names.length = vs.length := by simpa using h
      rw [List.zip_cons_cons, List.filterMap_cons]
      have e1 : List.lookup n ((n, v) :: names.zip vs) = some v := by simp
      rw [e1]
      simp only [Option.map_some]
      congr 1
      rw [← ih nd.2 h]
      refine fm_congr fun y hy => ?_
      have e2 : (y == n) = false := beq_false_of_ne fun e => nd.1 (e ▸ hy)
      rw [List.lookup_cons, e2, ih nd.2 h]
theorem zip_some {vs : List Value} : ∀ {names : List Str}, names.length = vs.length → ∀ y ∈ names, ((names.zip vs).lookup y).isNone = false := by
  induction vs with
  | nil => intro names h y hy; cases names with | nil => simp at hy | cons _ _ => simp at h
  | cons v vs ih =>
    intro names h y hy
    cases names with
    | nil => simp at h
    | cons n names =>
      rw [List.zip_cons_cons, List.lookup_cons]
      by_cases e : y = n
      · subst e; simp
      · rw [beq_false_of_ne e]
        exact ih (by simpa using h) y ((List.mem_cons.mp hy).resolve_left e)
theorem bind_plain {fd : FuncData} {vs : List Value} (hp : simpleParams fd.params = true) (hd : fd.defaults = .none) (hl : (fd.params.args.map (·.arg)).length = vs.length) (hn : nodupB (fd.params.args.map (·.arg)) = true) :
    bindArgs fd ⟨vs, []⟩ = pure ((fd.params.args.map (·.arg)).zip vs) := by
  have nd := nodupB_ok hn
  obtain ⟨nm, qn, ⟨po, as, va, ko, kd, kw, df⟩, bd, sc, gl, cl, dV, kV, doc, pm, an, cdv, ct, bi⟩ := fd
  unfold simpleParams at hp
  simp only [Bool.and_eq_true, List.isEmpty_iff, Option.isNone_iff_eq_none] at hp
  obtain ⟨⟨⟨rfl, rfl⟩, rfl⟩, rfl⟩ := hp
  cases hd
  dsimp only at hl nd ⊢
  have z := zip_lookup (vs := vs) nd hl
  have z2 := zip_some (vs := vs) hl
  generalize hN : as.map (·.arg) = names at *
  have e1 : seqItems? Value.none = pure none := rfl
  have e2 : ∀ {α β : Type} (a : α) (g : α → Sem β), (pure a >>= g) = g a := fun _ _ => rfl
  have e3 : ∀ k, (names.take k).filter (fun n => (List.lookup n (names.zip vs)).isNone) = [] := fun k => by
    rw [List.filter_eq_nil_iff]
    intro y hy
    rw [z2 y (List.mem_of_mem_take hy)]
    simp
  have e4 : decide (vs.length > names.length) = false := decide_eq_false (by omega)
  unfold bindArgs
  simp only [List.map_nil, List.nil_append, List.append_nil, hN, List.forIn_nil, e1, e2, e4, Bool.false_and, Option.getD_none, List.drop_nil, List.zip_nil_right, e3, List.isEmpty_nil, Bool.not_true, Bool.false_eq_true, if_false, z]

theorem look_rev {α : Type} : ∀ {l : List (Str × α)}, (l.map (·.1)).Nodup → ∀ y, l.reverse.lookup y = l.lookup y
  | [], _, _ => rfl
  | (a, v) :: l, nd, y => by
    rw [List.map_cons, List.nodup_cons] at nd
    rw [List.reverse_cons, List.lookup_append, look_rev nd.2 y, List.lookup_cons, List.lookup_cons]
    by_cases e : y = a
    · subst e
      have : l.lookup y = none := by
        cases h : l.lookup y with
        | none => rfl
        | some v =>
          exfalso
          refine nd.1 (List.mem_map.mpr ⟨(y, v), ?_, rfl⟩)
          clear nd
          induction l with
          | nil => simp at h
          | cons q l ih =>
            obtain ⟨b, z⟩ := q
            rw [List.lookup_cons] at h
            by_cases e : y = b
            · subst e; simp at h; subst h; exact .head _
            · rw [beq_false_of_ne e] at h; exact .tail _ (ih h)
      rw [this]; simp
    · rw [beq_false_of_ne e]
      simp
theorem zip_keys {α : Type} : ∀ {names : List Str} {vs : List α}, names.length = vs.length → (names.zip vs).map (·.1) = names
  | [], _, _ => rfl
  | _ :: _, [], h => by simp at h
  | _ :: _, _ :: _, h => by
    rw [List.zip_cons_cons, List.map_cons, zip_keys (by simpa using h)]
theorem mem_zip_names {α : Type} : ∀ {names : List Str} {vs : List α} {y : Str × α}, y ∈ names.zip vs → y.1 ∈ names
  | [], _, _, h => by simp at h
  | _ :: _, [], _, h => by simp at h
  | _ :: _, _ :: _, _, h => by
    rw [List.zip_cons_cons] at h
    cases h with
    | head => exact .head _
    | tail _ h => exact .tail _ (mem_zip_names h)
theorem zip_look {ρ : List Addr} {tl : Led} : ∀ {names : List Str} {vs : List V} {vs' : List Value}, F2 (VR ρ tl) vs vs' → ∀ x v, (names.zip vs).lookup x = some v → ∃ v', (names.zip vs').lookup x = some v' ∧ VR ρ tl v v'
  | [], _, _, _, _, _, h => by simp at h
  | _ :: _, _, _, .nil, _, _, h => by simp at h
  | a :: names, _, _, .cons r t, x, v, h => by
    rw [List.zip_cons_cons, List.lookup_cons] at h
    by_cases e : x = a
    · subst e
      simp at h; subst h
      exact ⟨_, by simp, r⟩
    · rw [beq_false_of_ne e] at h
      obtain ⟨v', h1, h2⟩ := zip_look t x v h
      exact ⟨v', by rw [List.zip_cons_cons, List.lookup_cons, beq_false_of_ne e]; exact h1, h2⟩

theorem fnAt_ok {K : Frag} {a : Nat} {fi : FI} (h : fnAt K a = some fi) : ∃ oc od osl fd, List.lookup a K = some ⟨oc, od, .func fd, osl⟩ ∧ fd = fnOf fd.name fi.qual fd.params fi.body fi.scope fd.defaults fd.kwdefaults fd.doc fd.pyModule fd.annotations fi.code fd.closureTuple ∧
    fi.names = fd.params.args.map (·.arg) ∧ simpleParams fd.params = true ∧ fd.defaults = .none ∧ codeIn K fi.code fi.qual = true ∧ fi.scope.isCoroutine = false ∧ fi.scope.isGenerator = false ∧ fi.scope.kind = .function ∧ (∀ x ∈ fi.scope.names, x.2 ≠ .cell) ∧
    (∀ y ∈ fi.names, fi.scope.names.lookup y = some .local) ∧ nodupB fi.names = true := by
  unfold fnAt at h
  split at h
  · rename_i oc od fd osl e
    split at h
    · rename_i b eb
      split at h
      · rename_i hp
        cases h
        unfold plainFd at hp
        simp only [Bool.and_eq_true, beq_iff_eq, Bool.not_eq_true', List.isEmpty_iff, List.all_eq_true, bne_iff_ne, ne_eq] at hp
        obtain ⟨⟨⟨⟨⟨⟨⟨⟨⟨⟨⟨h1, h2⟩, h3⟩, h4⟩, h5⟩, h6⟩, h7⟩, h8⟩, h9⟩, h10⟩, h11⟩, h12⟩ := hp
        refine ⟨oc, od, osl, fd, e, ?_, rfl, h4, h5, h6, h7, h8, h9, h10, h11, h12⟩
        obtain ⟨nm, qn, pr, bd, sc, gl, cl, dV, kV, doc, pm, an, cdv, ct, bi⟩ := fd
        dsimp only at *
        subst h1; subst h2; subst h3; subst eb
        rfl
      · cases h
    · cases h
  · cases h

section
variable {prog : Program} {w : World} {K : Frag} {p : Program} {loose : List Str} {mean : ExcName → Option Value} {mg mb : Str → Option Value}
variable {f : Fm} {m : Str → Option Value} {ρ : List Addr} {tl : Led} {hp : Hp} {os : List Obj} {loc : Loc} {s : Shared} {n : Nat} {rec : Job → Prop}

theorem snd_def {a : Nat} {fi : FI} {vs : List V} {vs' : List Value} {k : V → Hp → Prop} {Q : Value → Shared → Prop} (ih : IH prog w K p loose mean mg mb n rec) (ok : FmOk K p loose mean mg mb f (n + 1)) (e : fnAt K a = some fi) (hl : fi.names.length = vs.length)
    (h : rec (.sts fi.scope fi.body (fi.names.zip vs) hp fun fl _ hp => match fl with | .next => k .none hp | .ret v => k v hp)) (x : At prog w f m ρ tl hp os loc s) (rv : F2 (VR ρ tl) vs vs') (hQ : KE prog w f m ρ tl s VR k Q) :
    wpAny (model prog w) f.A (call (.ref a) vs') Q NE s := by
  obtain ⟨oc, od, osl, fd, e1, e2, e3, e4, e5, e6, e7, e8, e9, e10, e11, e12⟩ := fnAt_ok e
  have hl' : fi.names.length = vs'.length := hl.trans rv.length
  have hb : bindArgs fd ⟨vs', []⟩ = pure (fi.names.zip vs') := by
    rw [e3]
    exact bind_plain e4 e5 (by rw [← e3]; exact hl') (by rw [← e3]; exact e12)
  rw [e2] at e1 hb
  have nk := zip_keys hl'
  refine wpAny_call (code_def (env := f.env) (outer := f.outer) (binds := fi.names.zip vs') ok.B x.1 ok.X x.2.1.news ok.T rfl rfl ok.ck e1 e6 ?_ (BindsTo.of_eq hb) ?_ (fun g L' h₁ FG F' N' B' X' T' => ?_) e7 e8 e9 e10)
  · have := ok.d
    show f.dp < recursionLimit
    omega
  · intro y hy
    exact e11 _ (mem_zip_names hy)
  · let f' : Fm := { dp := f.dp + 1, un := f.un + 3, gd := f.gd, cn := fi.qual, cs := fi.scope, L := L', a := a, ccd := fi.code, outer := f.env :: f.outer, A₀ := f.A, base := f.base, h₀ := g }
    have ok' : FmOk K p loose mean mg mb f' n := ⟨B', X', T', e9, by have := ok.d; show f.dp + 1 + n < _; omega, by have := ok.u; show f.un + 3 + 8 * n + 64 < _; omega⟩
    have nd : ((fi.names.zip vs').map (·.1)).Nodup := by rw [nk]; exact nodupB_ok e12
    have x' : At prog w f' (fun y => (fi.names.zip vs').reverse.lookup y) ρ tl hp os (fi.names.zip vs) { s with heap := h₁, toks := s.toks + (fi.names.zip vs').length } := by
      refine ⟨F', x.2.1.moved N', fun y v hy => ?_⟩
      show ∃ v', (fi.names.zip vs').reverse.lookup y = some v' ∧ VR ρ tl v v'
      rw [look_rev nd]
      exact zip_look rv y v hy
    refine wpAny_mono (ih _ h f' rfl ok' _ ρ tl os _ (fun fl' s' => LeaveK f.h₀ f.L m g (fun r s' => match r with | .ok (.ret v) => Q v s' | .ok _ => False | .error e => NE e s') (match fl' with | .ret v => v | _ => .none) s') x' ?_) (fun _ _ y => y) (fun _ _ y => y.elim)
    intro fl loc' hp' ρ' tl' os' h' tk' m' fl' a1 b1 F1 H1 L1 r1
    refine leaveK_ F1 H1.news fun F2 N2 => ?_
    cases fl with
    | next =>
      have r1 : fl' = .next := r1
      subst r1
      exact hQ .none hp' ρ' tl' os' h' tk' .none a1 b1 F2 (H1.moved N2) rfl
    | ret v =>
      obtain ⟨v', rfl, r1⟩ := r1
      exact hQ v hp' ρ' tl' os' h' tk' v' a1 b1 F2 (H1.moved N2) r1
end
end Mine
end
section
namespace Mine
open PySem PySem.W PySem.Spec PySem.Calls PyProof.Rows

theorem noStar {env : Env} {pos : Pos} : ∀ {es : List Expr}, es.all notStar = true → (backTo pos (starEach es env)).any (·.1) = false
  | [], _ => rfl
  | e :: r, h => by
    rw [List.all_cons, Bool.and_eq_true] at h
    rw [starEach_of h.1]
    show (false || (backTo pos (starEach r env)).any (·.1)) = false
    rw [noStar h.2]
    rfl
theorem kl_last_of : ∀ {l : List Value} {a : Value}, kl_last (a :: l) = some ((a :: l).dropLast, (a :: l).getLastD a)
  | [], a => rfl
  | b :: l, a => by
    show (match kl_last (b :: l) with | some (q, z) => some (a :: q, z) | none => some ([], a)) = _
    rw [kl_last_of]
    simp [List.getLastD]

section
variable {prog : Program} {w : World} {K : Frag} {p : Program} {loose : List Str} {mean : ExcName → Option Value} {mg mb : Str → Option Value}
variable {f : Fm} {m : Str → Option Value} {ρ : List Addr} {tl : Led} {hp : Hp} {os : List Obj} {loc : Loc} {s : Shared} {n : Nat} {rec : Job → Prop}

theorem sound_call {g : V} {vs : List V} {k : V → Hp → Prop} (ih : IH prog w K p loose mean mg mb n rec) (h : stepC K rec g vs hp k) : Snd prog w K p loose mean mg mb (n + 1) (.call g vs hp k) := by
  rintro f ok m ρ tl os s g' vs' Q x rg rv hQ
  unfold stepC at h
  split at h
  · rename_i a
    split at h
    · rename_i fi e
      obtain ⟨h1, h⟩ := need_of h
      have rg : g' = .ref a := rg
      subst rg
      exact snd_def ih ok e (by simpa using h1) h x rv hQ
    · exact h.elim
  · have rg : g' = .builtin "len" := rg
    subst rg
    split at h
    · rename_i i
      split at h
      · rename_i ns e1
        obtain ⟨h1, h⟩ := need_of h
        obtain ⟨ax, ob, q1, q2, ⟨its, nn, rfl, q4⟩, q5⟩ := x.2.1.get e1
        cases rv with
        | cons r t =>
          cases t
          obtain ⟨ax', q6, rfl⟩ := r
          rw [q1] at q6; cases q6
          exact len_ints_fit (vs := its) (x.2.1.news.isList q5) q4 (by simpa using h1) (hQ.use x h ⟨_, rfl⟩ _)
      · exact h.elim
    · exact h.elim
  · have rg : g' = .builtin "abs" := rg
    subst rg
    split at h
    · cases rv with
      | cons r t =>
        cases t
        obtain ⟨t, rfl⟩ := r
        exact call_abs_int fun u tk => hQ.use x h ⟨u, rfl⟩ tk
    · exact h.elim
  · have rg : g' = .builtin "max" := rg
    subst rg
    split at h
    · cases rv with
      | cons r t =>
        cases t with
        | cons r2 t =>
          cases t
          obtain ⟨t, rfl⟩ := r
          obtain ⟨u, rfl⟩ := r2
          exact max_two_N rfl x.1 x.2.1.news fun h' tk F' N' => hQ _ hp ρ tl os h' tk _ h (Ext.refl _ _) F' (x.2.1.moved N') ⟨_, rfl⟩
    · exact h.elim
  · have rg : g' = .builtin "min" := rg
    subst rg
    split at h
    · cases rv with
      | cons r t =>
        cases t with
        | cons r2 t =>
          cases t
          obtain ⟨t, rfl⟩ := r
          obtain ⟨u, rfl⟩ := r2
          exact min_two_N rfl x.1 x.2.1.news fun h' tk F' N' => hQ _ hp ρ tl os h' tk _ h (Ext.refl _ _) F' (x.2.1.moved N') ⟨_, rfl⟩
    · exact h.elim
  · exact h.elim

-- a def of the text's, its arguments, then the call
theorem snd_callWith {fa : Nat} {first : List V} {first' : List Value} {args : List Expr} {pos : Pos} {k : V → Hp → Prop} {Q : Value → Shared → Prop} (ih : IH prog w K p loose mean mg mb n rec) (ok : FmOk K p loose mean mg mb f n) (hk : keepIn K (.ref fa) = true) (hs : args.all notStar = true)
    (h : rec (.args f.cs args loc hp fun vs hp => rec (.call (.kref fa) (first ++ vs) hp k))) (rf : F2 (VR ρ tl) first first') (x : At prog w f m ρ tl hp os loc s) (hQ : KE prog w f m ρ tl s VR k Q) :
    wpAny (model prog w) f.A (callWith pos (.ref fa) first' (backTo pos (starEach args f.env)) []) Q NE s := by
  have go : ∀ v v' ρ' tl' os' hp' h' tk', rec (.call (.kref fa) (first ++ v) hp' k) → Ext ρ tl ρ' tl' → F2 (VR ρ' tl') v v' → At prog w f m ρ' tl' hp' os' loc { s with heap := h', toks := tk' } → wpAny (model prog w) f.A (call (.ref fa) (first' ++ v')) Q NE { s with heap := h', toks := tk' } :=
    fun v v' ρ' tl' os' hp' h' tk' a b r x' => ih.call ok a x' rfl ((rf.mono fun _ _ y => y.ext b).append r) (hQ.ext b h' tk')
  cases args with
  | nil =>
    have A := ih.args ok (Q := fun vs' s' => vs' = [] → wpAny (model prog w) f.A (call (.ref fa) (first' ++ [])) Q NE s') h x pos fun v v' ρ' tl' os' hp' h' tk' a b r x' e => by subst e; exact go v [] ρ' tl' os' hp' h' tk' a b r x'
    refine callWith_K0 (ok.X.keeps x.1.keep) hk ?_
    intro Γ q hΓ
    exact A Γ q hΓ rfl Γ q hΓ
  | cons e r =>
    rw [List.all_cons, Bool.and_eq_true] at hs
    refine callWith_K ok.X hk (ih.args ok h x pos fun v v' ρ' tl' os' hp' h' tk' a b r x' => ⟨ok.X.keeps x'.1.keep, go v v' ρ' tl' os' hp' h' tk' a b r x'⟩) (starEach_of hs.1) (noStar hs.2)
end
end Mine
end
section
namespace Mine
open PySem PySem.W PySem.Spec PySem.Calls PyProof.Rows

theorem attributeBase_of {o : Expr} (h : plainObj o = true) (a : Str) (env : Env) (t : Sem Value) : attributeBase o a env t = t := by
  unfold plainObj at h
  split at h
  · rfl
  · rfl
  · cases h
theorem allPlain {env : Env} {pos : Pos} : ∀ {es : List Expr}, es.all notStar = true → (backTo pos (starEach es env)).all (fun x => !x.1) = true
  | [], _ => rfl
  | e :: r, h => by
    rw [List.all_cons, Bool.and_eq_true] at h
    rw [starEach_of h.1]
    show (true && (backTo pos (starEach r env)).all (fun x => !x.1)) = true
    rw [allPlain h.2]
    rfl
theorem methEq {o : Expr} {name : Str} {ap pos : Pos} {args : List Expr} {env : Env} (ho : plainObj o = true) (hs : args.all notStar = true) (hl : (ap.endLine == pos.line) = true) (hn : args.length < 30) :
    eval (.Call (.Attribute o name ap) args [] pos) env = (do
      let ov ← eval o env
      standAt ap.atName
      let (f, first) ← holding [ov] (getMethod ov name (do return (← importBound o env).getD true))
      callWith pos f first (backTo pos (starEach args env)) []) := by
  have e1 : eval (.Call (.Attribute o name ap) args [] pos) env = (do
      let ov ← attributeBase o name env (eval o env)
      standAt ap.atName
      methodCall o name ap pos env ov (args.length + 0) (backTo pos (starEach args env)) []) := rfl
  rw [e1, attributeBase_of ho]
  have e2 : methodCallForm (args.length + 0) (backTo pos (starEach args env)) [] = true := by
    unfold methodCallForm
    rw [allPlain hs]
    simpa using hn
  have e3 : methodCallPos true o env ap pos = pure pos := by
    unfold methodCallPos
    rw [hl]
    rfl
  unfold methodCall
  rw [e2]
  unfold calleeOf
  simp only [if_true, e3]
  rfl

section
variable {prog : Program} {w : World} {K : Frag} {p : Program} {loose : List Str} {mean : ExcName → Option Value} {mg mb : Str → Option Value}
variable {f : Fm} {m : Str → Option Value} {ρ : List Addr} {tl : Led} {hp : Hp} {os : List Obj} {loc : Loc} {s : Shared} {n : Nat} {rec : Job → Prop}

theorem methFn_ok {C fa : Nat} {name : Str} (h : methFn K C name = some fa) : findIn K (.ref C) name = some (some (.ref fa)) ∧ plainGet K C name = true ∧ isFn K (.ref fa) = true := by
  unfold methFn at h
  split at h
  · rename_i e
    split at h
    · rename_i q
      cases h
      rw [Bool.and_eq_true] at q
      exact ⟨e, q⟩
    · cases h
  · cases h
theorem classFn_ok {C fa : Nat} {name : Str} (h : classFn K C name = some fa) : ∃ mc, typeIn K (.ref C) = some mc ∧ findCls K (.ref C) mc name = some (.val (.ref fa)) ∧ readsIn K C mc = true ∧ specialIn K (.ref C) (Str.ofString "__getattribute__") = some (some (.builtin "type.__getattribute__")) := by
  unfold classFn at h
  split at h
  · rename_i mc e
    split at h
    · rename_i e2
      split at h
      · rename_i q
        cases h
        simp only [Bool.and_eq_true, beq_iff_eq] at q
        exact ⟨mc, e, e2, q.1, q.2⟩
      · cases h
    · cases h
  · cases h

-- the method of a value, then the call
theorem snd_meth {ov : V} {ov' : Value} {name : Str} {args : List Expr} {pos : Pos} {pl : Sem Bool} {k : V → Hp → Prop} {Q : Value → Shared → Prop} (ih : IH prog w K p loose mean mg mb n rec) (ok : FmOk K p loose mean mg mb f n) (h : methW K rec f.cs ov name args loc hp k) (rov : VR ρ tl ov ov')
    (x : At prog w f m ρ tl hp os loc s) (hQ : KE prog w f m ρ tl s VR k Q) :
    wpAny (model prog w) f.A (getMethod ov' name pl) (fun fx s₂ => wpAny (model prog w) f.A (callWith pos fx.1 fx.2 (backTo pos (starEach args f.env)) []) Q NE s₂) NE s := by
  unfold methW at h
  split at h
  · rename_i i
    split at h
    · rename_i C d e1
      split at h
      · rename_i es e2
        split at h
        · rename_i fa e3 e4
          obtain ⟨h1, h⟩ := need_of h
          rw [Bool.and_eq_true] at h1
          obtain ⟨ax, dx, des, nn, r1, r2, r3, r4, r5⟩ := inst_at x e1 e2
          obtain ⟨ax', q1, rfl⟩ := rov
          rw [r1] at q1; cases q1
          obtain ⟨m1, m2, m3⟩ := methFn_ok e4
          refine method_inst x.1 ok.X r5 m2 m1 m3 ((getL_of r4).2 e3) ?_
          exact snd_callWith (first := [.ref i]) ih ok h1.1 h1.2 h (.cons ⟨ax, r1, rfl⟩ .nil) x hQ
        · exact h.elim
      · exact h.elim
    · rename_i ps₀ e1
      obtain ⟨ax, ob, q1, q2, ⟨its, nn, rfl, q4⟩, q5⟩ := x.2.1.get e1
      obtain ⟨ax', q6, rfl⟩ := rov
      rw [q1] at q6; cases q6
      split at h
      · rename_i en
        subst en
        obtain ⟨h1, h⟩ := need_of h
        rw [Bool.and_eq_true] at h1
        refine kl_method x.2.1.news q5 PySem.F.slot_list_append PySem.F.type_list_append ?_
        cases args with
        | nil => simp at h1
        | cons e r =>
          have h2 := h1.2
          rw [List.all_cons, Bool.and_eq_true] at h2
          refine callWith_method1 (ih.args ok h x pos fun v v' ρ' tl' os' hp' h' tk' a b rv x' => ?_) (starEach_of h2.1) (noStar h2.2)
          split at a
          · rename_i c1 c2
            split at a
            · rename_i ps e2
              obtain ⟨h3, a⟩ := need_of a
              have h3 : ps.length < 1000 := by simpa using h3
              cases rv with
              | cons r1 t1 =>
                cases t1
                obtain ⟨ax2, ob2, p1, p2, ⟨its2, nn2, rfl, p4⟩, p5⟩ := x'.2.1.get e2
                have : ax2 = ax := Option.some.inj (p1.symm.trans (b.r _ _ q1))
                subst this
                have hl := p4.length
                refine append_K (its := its2.toArray) (n := nn2) x'.1 x'.2.1.news (upd_zip _ x'.2.1.nd p1 p2) (fun h'' F'' N'' => ?_) (by rw [List.size_toArray, sizeLine_eq]; omega)
                refine hQ .none _ ρ' tl' _ h'' tk' .none a b F'' (x'.2.1.put (o := .pairs (ps ++ [(c1, c2)])) ⟨its2 ++ [_], nn2 + 1, ?_, p4.append (.cons r1 .nil)⟩ N'') rfl
                simp
            · exact a.elim
          · exact a.elim
      · split at h
        · rename_i en
          subst en
          refine kl_method x.2.1.news q5 PySem.F.slot_list_pop PySem.F.type_list_pop ?_
          split at h
          · split at h
            · rename_i ps e2
              rw [e1] at e2; cases e2
              obtain ⟨h1, h⟩ := need_of h
              simp only [Bool.and_eq_true, Bool.not_eq_true', decide_eq_true_eq] at h1
              have hl := q4.length
              have hlast : ∃ y, kl_last its = some (its.dropLast, y) ∧ VR ρ tl (.pair (ps₀.getLastD (0, 0)).1 (ps₀.getLastD (0, 0)).2) y := by
                cases q4 with
                | nil => simp at h1
                | @cons q v l l' r t =>
                  refine ⟨_, kl_last_of, ?_⟩
                  have G : ∀ {l : List (Int × Int)} {l' : List Value} {q : Int × Int} {v : Value} (d : Int × Int) (d' : Value), VR ρ tl (.pair q.1 q.2) v → F2 (fun (p : Int × Int) v => VR ρ tl (.pair p.1 p.2) v) l l' → VR ρ tl (.pair ((q :: l).getLastD d).1 ((q :: l).getLastD d).2) ((v :: l').getLastD d') := by
                    intro l l' q v d d' r t
                    induction t generalizing q v d d' with
                    | nil => simpa using r
                    | cons r2 _ ih => simpa [List.getLastD] using ih (q := _) (v := _) d d' r2
                  exact G (0, 0) v r t
              obtain ⟨y, hy, ry⟩ := hlast
              refine callWith_method0 (kl_pop (its := its.toArray) (p := its.dropLast) (y := y) x.1 x.2.1.news (by simpa using hy) (upd_zip _ x.2.1.nd q1 q2) (by rw [sizeLine_eq]; show its.length ≤ _; omega) fun h'' F'' N'' => ?_)
              exact hQ _ _ ρ tl _ h'' s.toks _ h (Ext.refl _ _) F'' (x.2.1.put (o := .pairs ps₀.dropLast) ⟨its.dropLast, nn + 1, rfl, q4.dropLast⟩ N'') ry
            · exact h.elim
          · rename_i j ki pi
            obtain ⟨h0, h2⟩ := need_of h
            clear h
            have h0 : j = 0 := by simpa using h0
            subst h0
            split at h2
            · rename_i p0 ps e2
              rw [e1] at e2; cases e2
              obtain ⟨h3, h4⟩ := need_of h2
              have h3 : ps.length < 1000 := by simpa using h3
              cases q4 with
              | @cons _ v _ l' r t =>
                have hl := t.length
                refine callWith_method1 (args_cons (wpAny_Constant_int (args_nil ?_))) rfl rfl
                refine kl_popAt (its := (v :: l').toArray) (k := 0) (p := []) (q := l') (y := v) x.1 x.2.1.news (by decide) ?_ rfl (upd_zip _ x.2.1.nd q1 q2) (by rw [sizeLine_eq]; show (v :: l').length ≤ _; simp; omega) fun h'' F'' N'' => ?_
                · show seqIndex? 0 (v :: l').length = some 0
                  unfold seqIndex?
                  simp
                · exact hQ _ _ ρ tl _ h'' _ _ h4 (Ext.refl _ _) F'' (x.2.1.put (o := .pairs ps) ⟨l', nn + 1, rfl, t⟩ N'') r
            · exact h2.elim
          · exact h.elim
        · exact h.elim
    · rename_i es₀ e1
      split at h
      · rename_i en
        subst en
        obtain ⟨h1, h⟩ := need_of h
        rw [Bool.and_eq_true] at h1
        obtain ⟨ax, ob, q1, q2, ⟨kvs, q3, q4⟩, q5⟩ := x.2.1.get e1
        obtain ⟨ax', q6, rfl⟩ := rov
        rw [q1] at q6; cases q6
        refine kdl_method (knd := PySem.strKind prog w) PySem.F.slot_dict_update PySem.F.type_dict_update x.2.1.news q5 q3 ?_
        cases args with
        | nil => simp at h1
        | cons e r =>
          have h2 := h1.2
          rw [List.all_cons, Bool.and_eq_true] at h2
          refine callWith_method1 (ih.args ok h x pos fun v v' ρ' tl' os' hp' h' tk' a b rv x' => ?_) (starEach_of h2.1) (noStar h2.2)
          split at a
          · rename_i j
            split at a
            · rename_i es more e2 e3
              obtain ⟨h3, a⟩ := need_of a
              simp only [Bool.and_eq_true, decide_eq_true_eq, Bool.not_eq_true', beq_eq_false_iff_ne] at h3
              cases rv with
              | cons r1 t1 =>
                cases t1
                obtain ⟨ax2, ob2, p1, p2, ⟨kv2, p3, p4⟩, p5⟩ := x'.2.1.get e2
                obtain ⟨ax3, ob3, p6, p7, ⟨kv3, p8, p9⟩, p10⟩ := x'.2.1.get e3
                obtain ⟨ax3', p11, rfl⟩ := r1
                rw [p6] at p11; cases p11
                have : ax2 = ax := Option.some.inj (p1.symm.trans (b.r _ _ q1))
                subst this
                have l2 := p4.length
                have l3 := p9.length
                have hD : Heap.DictOf (PySem.strKind prog w) _ ax2 kv2 := kda_dict x'.2.1.news p5 p3
                have hD3 : Heap.DictOf (PySem.strKind prog w) _ ax3 kv3 := kda_dict x'.2.1.news p10 p8
                have hne : ax2 ≠ ax3 := fun e => by
                  subst e
                  have nd := (List.nodup_append.mp x'.2.1.nd).1
                  obtain ⟨k1, k2⟩ := List.getElem?_eq_some_iff.mp p1
                  obtain ⟨k3, k4⟩ := List.getElem?_eq_some_iff.mp p6
                  exact h3.2 ((List.getElem_inj nd).mp (k2.trans k4.symm))
                obtain ⟨pre, post, u1, u2, u3, u4⟩ := (updF_zip x'.2.1.nd p1 p2).split
                refine call_meetsIn PySem.F.slot_dict_update hD.typeIs PySem.F.entry_dict_update (PySem.F.args_dict_update_2 _ _) (meets_dict_update (PySem.strKind prog w) ax2 ax3 hne (x'.2.1.lo _ (List.mem_of_getElem? p6)))
                  ⟨kv2, kv3, hD, hD3, by rw [sizeLine_eq]; omega, fun h'' hmm _ hs => ?_⟩
                obtain ⟨o', ho', hd'⟩ := Heap.dictOf_iff.mp hmm
                have hm := x'.2.1.news _ p5
                have N'' : News f.h₀ f.L h'' (ρ'.zip (os'.set i o') ++ tl') := by
                  have := u2 o'
                  rw [this]
                  have N' := x'.2.1.news
                  rw [u1] at N'
                  exact N'.setIn u3 u4 hs ho'
                exact hQ .none _ ρ' tl' _ h'' tk' .none a b (x'.1.change hs hm.2.1 hm.2.2) (x'.2.1.put (o := .dict (mergeD es more)) ⟨_, hd', merged_of (R := VR ρ' tl') p9 p4⟩ N'') rfl
            · exact a.elim
          · exact a.elim
      · exact h.elim
    · exact h.elim
  · rename_i C
    split at h
    · rename_i fa e
      obtain ⟨h1, h⟩ := need_of h
      rw [Bool.and_eq_true] at h1
      have rov : ov' = .ref C := rov
      subst rov
      obtain ⟨mc, c1, c2, c3, c4⟩ := classFn_ok e
      refine method_of_cls x.1 ok.X c4 (cls_val x.1 ok.X c1 c3 c2 rfl ?_)
      exact snd_callWith (first := []) ih ok h1.1 h1.2 h .nil (x.toks _) hQ
    · exact h.elim
  · exact h.elim
end
end Mine
end
section
namespace Mine
open PySem PySem.W PySem.Spec PySem.Calls PyProof.Rows

section
variable {prog : Program} {w : World} {K : Frag} {p : Program} {loose : List Str} {mean : ExcName → Option Value} {mg mb : Str → Option Value}
variable {f : Fm} {m : Str → Option Value} {ρ : List Addr} {tl : Led} {hp : Hp} {os : List Obj} {loc : Loc} {s : Shared} {n : Nat} {rec : Job → Prop}

theorem menuOf_ok {v : Expr} {ms : List Int} (h : menuOf v = some ms) : ∃ els p, v = .List els p ∧ els.mapM (fun e => match e with | .Constant (.int i) _ _ => some i | _ => none) = some ms := by
  unfold menuOf at h
  split at h
  · exact ⟨_, _, rfl, h⟩
  · cases h
theorem menu_args {pos : Pos} {Q : List Value → Shared → Prop} {A : Around} : ∀ {els : List Expr} {ms : List Int} (s : Shared), els.mapM (fun e => match e with | .Constant (.int i) _ _ => some i | _ => none) = some ms →
    (∀ vs tk, IntsAre vs ms → Q vs { s with toks := tk }) → wpAny (model prog w) A (spliced (backTo pos (starEach els f.env))) Q NE s := by
  intro els
  induction els generalizing Q with
  | nil =>
    intro ms s h hQ
    simp at h
    subst h
    exact args_nil (hQ [] s.toks .nil)
  | cons e r ih =>
    intro ms s h hQ
    rw [List.mapM_cons] at h
    split at h
    · rename_i i k q
      cases hr : r.mapM (fun e => match e with | .Constant (.int i) _ _ => some i | _ => none) with
      | none => rw [hr] at h; cases h
      | some ms' =>
        rw [hr] at h
        have h : some (i :: ms') = some ms := h
        cases h
        refine args_cons (wpAny_Constant_int ?_) rfl
        exact ih _ hr fun vs tk iv => hQ _ tk (.cons i _ iv)
    · cases h

theorem pairs_of {ρ : List Addr} {tl : Led} : ∀ {kvs : List (Str × V)} {kvs' : List (Value × Value)}, Rp ρ tl kvs kvs' → allStrKeys kvs' = true ∧ F2 (fun (x : Str × V) (kv : Str × Value) => kv.1 = x.1 ∧ VR ρ tl x.2 kv.2) kvs (strPairs kvs') ∧ (strPairs kvs').map (·.1) = kvs.map (·.1) := by
  intro kvs kvs' F
  induction F with
  | nil => exact ⟨rfl, .nil, rfl⟩
  | @cons a b _ _ r _ ih =>
    obtain ⟨⟨t, hk⟩, hv⟩ := r
    obtain ⟨b1, b2⟩ := b
    have hk : b1 = .str a.1 t := hk
    subst hk
    refine ⟨ih.1, .cons ⟨rfl, hv⟩ ih.2.1, ?_⟩
    show a.1 :: _ = _
    rw [ih.2.2]
    rfl

theorem isTrue_val {e : Expr} {Q : Bool → Shared → Prop} {A : Around} {env : Env} (he : (match e with | .Name .. | .Call .. | .Subscript .. => true | _ => false) = true) (h : wpAny (model prog w) A (eval e env) (fun v s₁ => wpAny (model prog w) A (truthy v) Q NE s₁) NE s) :
    wpAny (model prog w) A (PySem.isTrue e env (eval e env)) Q NE s := by
  cases e <;> first | exact isTrue_plain h rfl | cases he

-- the sum over the second of pairs: shown in a text of its own
def SumOk (prog : Program) (w : World) (K : Frag) (p : Program) (loose : List Str) (mean : ExcName → Option Value) (mg mb : Str → Option Value) : Prop :=
  ∀ (rec : Job → Prop) (n : Nat) (f : Fm) (m : Str → Option Value) (ρ : List Addr) (tl : Led) (hp : Hp) (os : List Obj) (loc : Loc) (s : Shared) (args : List Expr) (it : Expr) (pos px : Pos) (k : V → Hp → Prop) (Q : Value → Shared → Prop),
    IH prog w K p loose mean mg mb n rec → FmOk K p loose mean mg mb f n → sumView args = some it → f.cs.names.lookup (Str.ofString "sum") = some .globalImplicit →
    nsIn K mainGlobals (Str.ofString "sum") = some none →
    rec (.ex f.cs it loc hp fun o hp => match o with
      | .ref i => (match hp[i]? with
          | some (.pairs ps) => need (decide (ps.length < 1000)) (k (.int ((ps.map (·.2)).sum)) hp)
          | _ => False)
      | _ => False) →
    At prog w f m ρ tl hp os loc s → KE prog w f m ρ tl s VR k Q → wpAny (model prog w) f.A (eval (.Call (.Name (Str.ofString "sum") px) args [] pos) f.env) Q NE s

theorem sound_ex {cs : Scope} {e : Expr} {k : V → Hp → Prop} (sumOk : SumOk prog w K p loose mean mg mb) (nosum : nsIn K mainGlobals (Str.ofString "sum") = some none) (ih : IH prog w K p loose mean mg mb n rec) (h : stepE K rec cs e loc hp k) : Snd prog w K p loose mean mg mb (n + 1) (.ex cs e loc hp k) := by
  rintro f rfl ok m ρ tl os s Q x hQ
  have ok' := ok.pred
  unfold stepE at h
  split at h
  · -- constant
    exact snd_const (rec := rec) (K := K) (cs := f.cs) h x hQ
  · exact snd_name ok' h x hQ
  · -- BinOp
    refine wpAny_BinOp (ih.ex ok' h x fun v v' ρ' tl' os' hp' h' tk' a b rv x' => ?_)
    refine ih.ex ok' a x' fun v2 v2' ρ'' tl'' os'' hp'' h'' tk'' a2 b2 rv2 x'' => ?_
    exact snd_bin a2 (rv.ext b2) rv2 x'' ((hQ.ext b h' tk').ext b2 h'' tk'')
  · -- BoolOp
    rename_i op vs p
    split at h
    · exact h.elim
    · exact BoolOp_one (ih.ex ok' h x fun v v' ρ' tl' os' hp' h' tk' a b rv x' => hQ v hp' ρ' tl' os' h' tk' v' a b x'.1 x'.2.1 rv)
    · rename_i e₁ e₂ rest
      cases op with
      | And =>
        refine BoolOp_and (ih.ex ok' h x fun v v' ρ' tl' os' hp' h' tk' a b rv x' => ?_)
        split at a
        · rename_i bb
          have rv : v' = .bool bb := rv
          subst rv
          refine wpAny_truthy_bool ?_
          cases bb with
          | true => exact ih.ex ok' a x' fun v2 v2' ρ'' tl'' os'' hp'' h'' tk'' a2 b2 rv2 x'' => hQ v2 hp'' ρ'' tl'' os'' h'' tk'' v2' a2 (b.trans b2) x''.1 x''.2.1 rv2
          | false => exact hQ _ hp' ρ' tl' os' h' tk' _ a b x'.1 x'.2.1 rfl
        · exact a.elim
      | Or =>
        refine BoolOp_or (ih.ex ok' h x fun v v' ρ' tl' os' hp' h' tk' a b rv x' => ?_)
        split at a
        · rename_i bb
          have rv : v' = .bool bb := rv
          subst rv
          refine wpAny_truthy_bool ?_
          cases bb with
          | false => exact ih.ex ok' a x' fun v2 v2' ρ'' tl'' os'' hp'' h'' tk'' a2 b2 rv2 x'' => hQ v2 hp'' ρ'' tl'' os'' h'' tk'' v2' a2 (b.trans b2) x''.1 x''.2.1 rv2
          | true => exact hQ _ hp' ρ' tl' os' h' tk' _ a b x'.1 x'.2.1 rfl
        · exact a.elim
  · -- IfExp
    refine IfExp_ (ih.tst ok' h x fun c ρ' tl' os' hp' h' tk' a b x' => ?_)
    cases c with
    | true => exact ih.ex ok' a x' fun v2 v2' ρ'' tl'' os'' hp'' h'' tk'' a2 b2 rv2 x'' => hQ v2 hp'' ρ'' tl'' os'' h'' tk'' v2' a2 (b.trans b2) x''.1 x''.2.1 rv2
    | false => exact ih.ex ok' a x' fun v2 v2' ρ'' tl'' os'' hp'' h'' tk'' a2 b2 rv2 x'' => hQ v2 hp'' ρ'' tl'' os'' h'' tk'' v2' a2 (b.trans b2) x''.1 x''.2.1 rv2
  · -- Compare
    split at h
    · obtain ⟨h1, h2⟩ := snd_cmpE ih ok' h x hQ
      exact wpAny_Compare1 h2 h1
    · exact h.elim
  · -- Attribute
    split at h
    · exact Attribute_Name_ (ih.ex ok' h x fun v v' ρ' tl' os' hp' h' tk' a b rv x' => snd_attr ok' a rv x' fun v v' tk kk r => (hQ.ext b h' tk').use x' kk r tk) rfl
    · exact h.elim
  · -- Subscript
    rename_i v sE q
    split at h
    · rename_i ms e1
      obtain ⟨els, pp, rfl, hm⟩ := menuOf_ok e1
      obtain ⟨h0, h⟩ := need_of h
      rw [Bool.and_eq_true, decide_eq_true_eq] at h0
      refine Subscript_ (List_ (menu_args s hm fun vs tk iv => ?_))
      have hl := iv.length
      refine newList_K x.1 x.2.1.news (fun D h' F' N' lt => ?_) ?_
      · have e : Ext ρ tl ρ ((D, W.listOf vs.toArray 0) :: tl) := ⟨fun _ _ h => h, fun _ h => .tail _ h⟩
        have x₁ : At prog w f m ρ ((D, W.listOf vs.toArray 0) :: tl) hp os loc { s with heap := h', toks := tk } := ⟨F', x.2.1.addTup N' lt, x.2.2.ext e⟩
        refine ih.ex ok' h x₁ fun i i' ρ' tl' os' hp' h'' tk' a b ri x' => ?_
        split at a
        · rename_i j
          obtain ⟨h1, a⟩ := need_of a
          simp only [Bool.and_eq_true, decide_eq_true_eq] at h1
          obtain ⟨t, rfl⟩ := ri
          have hmem := x'.2.1.news.get (List.mem_append_right _ (b.t _ (.head _)))
          exact ksa_sub x'.2.1.news (List.mem_append_right _ (b.t _ (.head _))) iv h1.1 h1.2 (by omega) (fun t => hQ _ hp' ρ' tl' os' h'' tk' _ a (e.trans b) x'.1 x'.2.1 ⟨t, rfl⟩) (subscripted_of h0.1 _ _)
        · exact a.elim
      · rw [sizeLine_eq]; omega
    · obtain ⟨h1, h⟩ := need_of h
      refine Subscript_ (ih.ex ok' h x fun v v' ρ' tl' os' hp' h' tk' a b rv x' => ?_)
      refine ih.ex ok' a x' fun v2 v2' ρ'' tl'' os'' hp'' h'' tk'' a2 b2 rv2 x'' => ?_
      exact snd_sub h1 a2 (rv.ext b2) rv2 x'' ((hQ.ext b h' tk').ext b2 h'' tk'')
  · -- Call
    rename_i g args kws pos
    split at h
    · split at h
      · rename_i o name ap
        obtain ⟨h1, h⟩ := need_of h
        simp only [Bool.and_eq_true, decide_eq_true_eq] at h1
        refine MethodCall_ (ih.ex ok' h x fun v v' ρ' tl' os' hp' h' tk' a b rv x' => ?_) (methEq h1.1.1.1 h1.2 h1.1.1.2 h1.1.2)
        exact snd_meth ih ok' a rv x' (hQ.ext b h' tk')
      · rename_i y px
        split at h
        · rename_i it e1
          obtain ⟨h1, h3⟩ := need_of h
          obtain ⟨h2, h4⟩ := need_of h3
          have h1 : y = Str.ofString "sum" := by simpa using h1
          subst h1
          exact sumOk rec n f m ρ tl hp os loc s args it pos px k Q ih ok' e1 (by simpa using h2) nosum h4 x hQ
        · refine Call_ (ih.ex ok' h x fun v v' ρ' tl' os' hp' h' tk' a b rv x' => ?_) rfl
          split at a
          · rename_i fa
            obtain ⟨h1, a⟩ := need_of a
            rw [Bool.and_eq_true] at h1
            have rv : v' = .ref fa := rv
            subst rv
            exact snd_callWith (first := []) ih ok' h1.1 h1.2 a .nil x' (hQ.ext b h' tk')
          · rename_i bb
            obtain ⟨h1, a⟩ := need_of a
            rw [Bool.and_eq_true] at h1
            have rv : v' = .builtin bb.id := rv
            subst rv
            cases args with
            | nil => simp at h1
            | cons e r =>
              have h2 := h1.2
              rw [List.all_cons, Bool.and_eq_true] at h2
              refine PyProof.Rows.callWith_builtin1 (ih.args ok' a x' pos fun v v' ρ'' tl'' os'' hp'' h'' tk'' a2 b2 rv2 x'' => ?_) (starEach_of h2.1) (noStar h2.2)
              exact ih.call ok' a2 x'' rfl rv2 ((hQ.ext b h' tk').ext b2 h'' tk'')
          · exact a.elim
      · exact h.elim
    · exact h.elim
  · -- Tuple
    split at h
    · refine Tuple_ (ih.args ok' h x _ fun v v' ρ' tl' os' hp' h' tk' a b rv x' => ?_)
      split at a
      · cases rv with
        | cons r1 t1 =>
          cases t1 with
          | cons r2 t2 =>
            cases t2
            obtain ⟨t, rfl⟩ := r1
            obtain ⟨u, rfl⟩ := r2
            refine snd_newTuple x' (by simp) fun D h'' x'' e'' => ?_
            exact hQ _ hp' ρ' _ os' h'' tk' _ a (b.trans e'') x''.1 x''.2.1 ⟨D, t, u, rfl, .head _⟩
      · exact a.elim
    · exact h.elim
  · -- Dict
    rename_i ks vs pp
    obtain ⟨h1, h⟩ := need_of h
    simp only [Bool.and_eq_true, decide_eq_true_eq, Bool.not_eq_true'] at h1
    obtain ⟨⟨⟨b1, b2⟩, b3⟩, b4⟩ := h1
    refine kdn_eval (knd := PySem.strKind prog w) x.1 x.2.1.news ok.T.nolimit b4 b1 (by intro e; subst e; cases b3) b2 fun d h₁ o F₁ N₁ lt lo hd => ?_
    obtain ⟨H₁, e₁⟩ := x.2.1.addObj (o := .dict []) N₁ lt ⟨[], hd, .nil⟩ lo
    refine ih _ h f rfl ok' pp m _ tl _ _ _ (x.moved s.toks e₁ F₁ H₁) fun kvs hp' ρ' tl' os' h' tk' kvs' a b F H r => ?_
    dsimp only at a
    split at a
    · rename_i e2
      obtain ⟨h2, a⟩ := need_of a
      have hlen : ρ.length = hp.length := by rw [← x.2.1.len, x.2.1.f2.length]
      have e3 : ρ'[hp.length]? = some d := b.r _ _ (by rw [← hlen]; simp)
      obtain ⟨ob, q1, ⟨kv0, q2, q3⟩, q4⟩ := H.getA e2 e3
      cases q3
      have G := pairs_of r
      refine kdn_made_str F H.news (updF_zip H.nd e3 q1) q2 G.1 (by rw [G.2.2]; exact nodupB_ok h2) fun h'' o'' F'' N'' hd'' => ?_
      exact hQ _ _ ρ' tl' _ h'' _ _ a (e₁.trans b) F'' (H.put (o := .dict kvs) ⟨_, hd'', G.2.1⟩ N'') ⟨d, e3, rfl⟩
    · exact a.elim
  · -- List
    split at h
    · refine List_ (args_nil (newList_N x.1 x.2.1.news (fun h' F' N' => ?_) (by rw [sizeLine_eq]; simp)))
      have lo := x.1.notModules (modules_low ok.T.nolimit)
      obtain ⟨H₁, e₁⟩ := x.2.1.addObj (o := .pairs []) N' (fun q hq => Heap.lt_size (x.2.1.news q hq).1) ⟨[], 0, rfl, .nil⟩ lo
      have hlen : ρ.length = hp.length := by rw [← x.2.1.len, x.2.1.f2.length]
      exact hQ _ _ _ tl _ h' s.toks _ h e₁ F' H₁ ⟨_, by rw [← hlen]; simp, rfl⟩
    · exact h.elim
  · exact h.elim
end
end Mine
end
section
namespace Mine
open PySem PySem.W PySem.Spec PySem.Calls PyProof.Rows

section
variable {prog : Program} {w : World} {K : Frag} {p : Program} {loose : List Str} {mean : ExcName → Option Value} {mg mb : Str → Option Value}
variable {f : Fm} {m : Str → Option Value} {ρ : List Addr} {tl : Led} {hp : Hp} {os : List Obj} {loc : Loc} {s : Shared} {n : Nat} {rec : Job → Prop}

theorem sound_tst {cs : Scope} {e : Expr} {k : Bool → Hp → Prop} (ih : IH prog w K p loose mean mg mb n rec) (h : stepT rec cs e loc hp k) : Snd prog w K p loose mean mg mb (n + 1) (.tst cs e loc hp k) := by
  rintro f rfl ok m ρ tl os s Q x hQ
  have ok' := ok.pred
  have val : ∀ {e : Expr}, (match e with | .Name .. | .Call .. | .Subscript .. => true | _ => false) = true → rec (.ex f.cs e loc hp fun v hp => match v with | .bool b => k b hp | _ => False) → wpAny (model prog w) f.A (PySem.isTrue e f.env (eval e f.env)) Q NE s := by
    intro e he h
    refine isTrue_val he (ih.ex ok' h x fun v v' ρ' tl' os' hp' h' tk' a b rv x' => ?_)
    split at a
    · rename_i bb
      have rv : v' = .bool bb := rv
      subst rv
      exact wpAny_truthy_bool (hQ bb hp' ρ' tl' os' h' tk' bb a b x'.1 x'.2.1 rfl)
    · exact a.elim
  unfold stepT at h
  split at h
  · split at h
    · exact isTrue_not (ih.tst ok' h x fun c ρ' tl' os' hp' h' tk' a b x' => hQ _ hp' ρ' tl' os' h' tk' _ a b x'.1 x'.2.1 rfl)
    · exact h.elim
  · rename_i op vs q
    split at h
    · cases op with
      | And => exact isTrue_and_nil (hQ _ hp ρ tl os s.heap s.toks _ h (Ext.refl _ _) x.1 x.2.1 rfl)
      | Or => exact isTrue_or_nil (hQ _ hp ρ tl os s.heap s.toks _ h (Ext.refl _ _) x.1 x.2.1 rfl)
    · rename_i e₁ rest
      cases op with
      | And =>
        refine isTrue_and (ih.tst ok' h x fun c ρ' tl' os' hp' h' tk' a b x' => ?_)
        cases c with
        | true => exact ih.tst ok' a x' fun c2 ρ'' tl'' os'' hp'' h'' tk'' a2 b2 x'' => hQ c2 hp'' ρ'' tl'' os'' h'' tk'' c2 a2 (b.trans b2) x''.1 x''.2.1 rfl
        | false => exact hQ _ hp' ρ' tl' os' h' tk' _ a b x'.1 x'.2.1 rfl
      | Or =>
        refine isTrue_or (ih.tst ok' h x fun c ρ' tl' os' hp' h' tk' a b x' => ?_)
        cases c with
        | false => exact ih.tst ok' a x' fun c2 ρ'' tl'' os'' hp'' h'' tk'' a2 b2 x'' => hQ c2 hp'' ρ'' tl'' os'' h'' tk'' c2 a2 (b.trans b2) x''.1 x''.2.1 rfl
        | true => exact hQ _ hp' ρ' tl' os' h' tk' _ a b x'.1 x'.2.1 rfl
  · split at h
    · rename_i op r
      have hQ' : KE prog w f m ρ tl s VR (fun v hp => match v with | .bool b => k b hp | _ => False) (fun v' s' => wpAny (model prog w) f.A (truthy v') Q NE s') := by
        intro v hp' ρ' tl' os' h' tk' v' a b F H rv
        split at a
        · rename_i bb
          have rv : v' = .bool bb := rv
          subst rv
          exact wpAny_truthy_bool (hQ bb hp' ρ' tl' os' h' tk' bb a b F H rfl)
        · exact a.elim
      obtain ⟨h1, h2⟩ := snd_cmpE ih ok' h x hQ'
      exact wpAny_isTrue_Compare1 h2 h1
    · exact h.elim
  · exact val rfl h
  · exact val rfl h
  · exact val rfl h
  · exact h.elim

-- the stores of a tuple's items, in order
theorem assignEach_names : ∀ {ts : List Expr} {env : Env}, ts.all notStar = true → assignEach ts env = ts.map fun t => (false, assign t env)
  | [], _, _ => rfl
  | t :: ts, env, h => by
    rw [List.all_cons, Bool.and_eq_true] at h
    have : assignEach (t :: ts) env = (false, assign t env) :: assignEach ts env := by
      cases t <;> first | rfl | (exact absurd h.1 (by simp [notStar]))
    rw [this, assignEach_names h.2]
    rfl
theorem snd_bindName {y : Str} {v : V} {v' : Value} {Q : Unit → Shared → Prop} (ok : FmOk K p loose mean mg mb f n) (hl : isLocal f.cs y = true) (rv : VR ρ tl v v') (x : At prog w f m ρ tl hp os loc s)
    (hQ : ∀ h', At prog w f (fun z => if z = y then some v' else m z) ρ tl hp os (putA y v loc) { s with heap := h', toks := s.toks + 1 } → Q () { s with heap := h', toks := s.toks + 1 }) :
    wpAny (model prog w) f.A (storeName f.env y v') Q NE s := by
  have hl : f.cs.names.lookup y = some .local := by simpa [isLocal] using hl
  refine stN (name := f.cn) (scope := f.cs) (L := f.L) (a := f.a) (cd := f.ccd) x.1 x.2.1.news (fun h' F' N' => ?_) ok.ck hl
  exact hQ h' ⟨F', x.2.1.moved N', x.2.2.put rv⟩
theorem dictKey_ok {e : Expr} {y : Str} (h : dictKey e = some y) : ∃ i q, e = .Constant (.str y) i q := by
  unfold dictKey at h
  split at h
  · cases h; exact ⟨_, _, rfl⟩
  · cases h
theorem snd_stores {Q : Unit → Shared → Prop} {k : Loc → Hp → Prop} (ih : IH prog w K p loose mean mg mb n rec) (ok : FmOk K p loose mean mg mb f n) : ∀ {ts : List Expr} {vs : List V} {vs' : List Value} {m : Str → Option Value} {ρ : List Addr} {tl : Led} {hp : Hp} {os : List Obj} {loc : Loc} {s : Shared},
    storesW rec f.cs ts vs loc hp k → F2 (VR ρ tl) vs vs' → At prog w f m ρ tl hp os loc s →
    (∀ loc' hp' m' ρ' tl' os' h' tk', k loc' hp' → Ext ρ tl ρ' tl' → At prog w f m' ρ' tl' hp' os' loc' { s with heap := h', toks := tk' } → Q () { s with heap := h', toks := tk' }) →
    wpAny (model prog w) f.A (assignInOrder (ts.map fun t => assign t f.env) vs') Q NE s := by
  intro ts
  induction ts with
  | nil =>
    intro vs vs' m ρ tl hp os loc s h rv x hQ
    cases rv with
    | nil => exact wpAny_pure (hQ loc hp m ρ tl os s.heap s.toks h (Ext.refl _ _) x)
    | cons _ _ => exact h.elim
  | cons t ts it =>
    intro vs vs' m ρ tl hp os loc s h rv x hQ
    cases rv with
    | nil => exact h.elim
    | @cons v v' vs vs' r rs =>
      unfold storesW at h
      split at h
      · rename_i y q
        obtain ⟨h1, h2⟩ := need_of h
        refine assignInOrder_cons (wpAny_assign_Name (snd_bindName ok h1 r x fun h' x' => ?_))
        exact it h2 rs x' fun loc' hp' m' ρ' tl' os' h'' tk' a b x'' => hQ loc' hp' m' ρ' tl' os' h'' tk' a b x''
      · rename_i o po sE q
        split at h
        · rename_i y e1
          obtain ⟨i, q2, rfl⟩ := dictKey_ok e1
          refine assignInOrder_cons ?_
          show wpAny (model prog w) f.A (assign (.Subscript (.Name o po) (.Constant (.str y) i q2) q) f.env v') _ NE s
          rw [assign_Subscript]
          refine wpAny_bind (wpAny_holding (ih.ex ok h x fun ov ov' ρ' tl' os' hp' h' tk' a b ro x' => ?_))
          refine wpAny_bind (wpAny_holding (wpAny_Constant_str (wpAny_bind (wpAny_standAt (wpAny_bind (wpAny_holding ?_))))))
          refine snd_dictSet a ro (r.ext b) (x'.toks _) fun hp'' os'' h'' tk'' a2 F2' H2 => wpAny_release' ?_
          have x'' : At prog w f m ρ' tl' hp'' os'' loc { s with heap := h'', toks := tk'' } := ⟨F2', H2, x'.2.2⟩
          exact it a2 (rs.mono fun _ _ y => y.ext b) x'' fun loc' hp' m' ρ'' tl'' os' h3 tk3 a3 b3 x3 => hQ loc' hp' m' ρ'' tl'' os' h3 tk3 a3 (b.trans b3) x3
        · exact h.elim
      · exact h.elim
end
end Mine
end
section
namespace Mine
open PySem PySem.W PySem.Spec PySem.Calls PyProof.Rows

theorem noNames {g : Expr → Option Str} (hg : ∀ t, isName t = false → g t = none) : ∀ {ts : List Expr}, ts.any isName = false → ts.filterMap g = []
  | [], _ => rfl
  | t :: ts, h => by
    rw [List.any_cons, Bool.or_eq_false_iff] at h
    rw [List.filterMap_cons, hg t h.1, noNames hg h.2]
theorem noAny {g : Expr → Bool} (hg : ∀ t, notStar t = true → g t = false) : ∀ {ts : List Expr}, ts.all notStar = true → ts.any g = false
  | [], _ => rfl
  | t :: ts, h => by
    rw [List.all_cons, Bool.and_eq_true] at h
    rw [List.any_cons, hg t h.1, noAny hg h.2]
    rfl
theorem swap_none {ts vs : List Expr} {i j : Nat} {q q2 : Pos} {env : Env} (h : ts.any isName = false) : swappedStores [.Tuple ts i q] (.Tuple vs j q2) env = pure none := by
  unfold swappedStores
  dsimp only
  generalize hN : List.filterMap _ ts = names
  have : names = [] := by
    rw [← hN]
    exact noNames (fun t ht => by cases t <;> first | rfl | cases ht) h
  subst this
  split
  · rfl
  · split
    · rfl
    · split
      · rfl
      · exfalso
        rename_i h1 _ h3
        cases ts with
        | nil => simp at h1
        | cons t r => simp at h3
theorem swap_names {a b : Str} {p1 p2 : Pos} {vs : List Expr} {i j : Nat} {q q2 : Pos} {env : Env} (hk : env.scope.kind = .function) (ha : env.kindOf a = some .local) (hb : env.kindOf b = some .local) (hl : p1.line = p2.line) (hab : a ≠ b) (hv : vs.length = 2) (hs : vs.all notStar = true) :
    swappedStores [.Tuple [.Name a p1, .Name b p2] i q] (.Tuple vs j q2) env = (if vs.all (foldedForSure 8) then pure none else if vs.all (constantsAlone 8) then unsupported "assign.tuple-of-constant-expressions:order-of-the-stores" else pure (some [a, b])) := by
  have hbk : (env.blockKind != .function) = false := by
    unfold Env.blockKind
    rw [hk]
    rfl
  unfold swappedStores
  dsimp only
  generalize hN : List.filterMap _ [Expr.Name a p1, Expr.Name b p2] = names
  have : names = [a, b] := by
    rw [← hN]
    simp [ha, hb, hl, PySem.Expr.pos]
  subst this
  have he : ([a, b] : List Str).eraseDups = [a, b] := by
    have : (b == a) = false := beq_false_of_ne (Ne.symm hab)
    simp [List.eraseDups_cons, this]
  rw [hbk, if_neg (by simp [hv]), if_neg (by rw [noAny (fun t ht => by cases t <;> first | rfl | cases ht) hs]; exact Bool.false_ne_true), if_neg (by rw [he]; simp)]
  rfl
theorem allNames_ok {ts : List Expr} {a b : Str} {l l' : Nat} (h : allNames ts = some [(a, l), (b, l')]) : ∃ p1 p2, ts = [.Name a p1, .Name b p2] ∧ p1.line = l ∧ p2.line = l' := by
  unfold allNames at h
  split at h
  · cases h
  · rename_i x p r
    cases e : allNames r with
    | none => rw [e] at h; cases h
    | some ns =>
      rw [e] at h
      simp only [Option.map_some, Option.some.injEq, List.cons.injEq, Prod.mk.injEq] at h
      obtain ⟨⟨rfl, rfl⟩, rfl⟩ := h
      unfold allNames at e
      split at e
      · cases e
      · rename_i x2 p2 r2
        cases e2 : allNames r2 with
        | none => rw [e2] at e; cases e
        | some ns =>
          rw [e2] at e
          simp only [Option.map_some, Option.some.injEq, List.cons.injEq, Prod.mk.injEq] at e
          obtain ⟨⟨rfl, rfl⟩, rfl⟩ := e
          unfold allNames at e2
          split at e2
          · exact ⟨p, p2, rfl, rfl, rfl⟩
          · rename_i x3 p3 r3
            cases e3 : allNames r3 <;> rw [e3] at e2 <;> cases e2
          · cases e2
      · cases e
  · cases h
theorem swapP_ok {cs : Scope} {ts vs : List Expr} {i j : Nat} {q q2 : Pos} {env : Env} (hc : env.scope = cs) (hk : cs.kind = .function) :
    (swapP cs ts vs = some false → swappedStores [.Tuple ts i q] (.Tuple vs j q2) env = pure none) ∧
    (swapP cs ts vs = some true → ∃ a b p1 p2, ts = [.Name a p1, .Name b p2] ∧ isLocal cs a = true ∧ isLocal cs b = true ∧ swappedStores [.Tuple ts i q] (.Tuple vs j q2) env = pure (some [a, b])) := by
  subst hc
  unfold swapP
  split
  · split
    · rename_i a l b l' e
      split
      · rename_i h1
        simp only [Bool.and_eq_true, decide_eq_true_eq, beq_iff_eq, Bool.not_eq_true', beq_eq_false_iff_ne, ne_eq] at h1
        obtain ⟨⟨⟨⟨⟨h1, h2⟩, h3⟩, h4⟩, h5⟩, h6⟩ := h1
        obtain ⟨p1, p2, rfl, rfl, rfl⟩ := allNames_ok e
        have la : env.kindOf a = some .local := by
          show env.scope.names.lookup a = some .local
          simpa [isLocal] using h1
        have lb : env.kindOf b = some .local := by
          show env.scope.names.lookup b = some .local
          simpa [isLocal] using h2
        rw [swap_names hk la lb h3 h4 h5 h6]
        split
        · exact ⟨fun _ => rfl, fun h => (nomatch h)⟩
        · split
          · exact ⟨fun h => (nomatch h), fun h => (nomatch h)⟩
          · exact ⟨fun h => (nomatch h), fun _ => ⟨a, b, p1, p2, rfl, h1, h2, rfl⟩⟩
      · exact ⟨fun h => (nomatch h), fun h => (nomatch h)⟩
    · split
      · exact ⟨fun h => (nomatch h), fun h => (nomatch h)⟩
      · rename_i h1
        exact ⟨fun _ => swap_none (by simpa using h1), fun h => (nomatch h)⟩
  · split
    · exact ⟨fun h => (nomatch h), fun h => (nomatch h)⟩
    · rename_i h1
      exact ⟨fun _ => swap_none (by simpa using h1), fun h => (nomatch h)⟩
end Mine
end
section
namespace Mine
open PySem PySem.W PySem.Spec PySem.Calls PyProof.Rows

theorem swapsWith_of {e : Expr} (h : notComp e = true) (t : Option Expr) (line : Nat) (env : Env) : swapsWith e t line env = pure false := by
  cases e <;> first | rfl | cases h
theorem noStars {ts : List Expr} {env : Env} (h : ts.all notStar = true) : (assignEach ts env).findIdx? (·.1) = none := by
  rw [assignEach_names h]
  clear h
  induction ts with
  | nil => rfl
  | cons t r ih => simp only [List.map_cons, List.findIdx?_cons, ih]; rfl
theorem interactive_of {env : Env} (h : env.scope.kind = .function) : interactive env = false := by
  unfold interactive
  rw [h]
  rfl

section
variable {prog : Program} {w : World} {K : Frag} {p : Program} {loose : List Str} {mean : ExcName → Option Value} {mg mb : Str → Option Value}
variable {f : Fm} {m : Str → Option Value} {ρ : List Addr} {tl : Led} {hp : Hp} {os : List Obj} {loc : Loc} {s : Shared} {n : Nat} {rec : Job → Prop}

theorem IH.sts (ih : IH prog w K p loose mean mg mb n rec) (ok : FmOk K p loose mean mg mb f n) {ss : List Stmt} {k : Fl → Loc → Hp → Prop} {Q : Flow → Shared → Prop} (h : rec (.sts f.cs ss loc hp k)) (x : At prog w f m ρ tl hp os loc s)
    (hQ : KS prog w f ρ tl s k Q) : wpAny (model prog w) f.A (execs ss f.env) Q NE s := ih _ h f rfl ok m ρ tl os s Q x hQ
theorem KS.ext {k : Fl → Loc → Hp → Prop} {Q : Flow → Shared → Prop} (h : KS prog w f ρ tl s k Q) {ρ' : List Addr} {tl' : Led} (e : Ext ρ tl ρ' tl') (h' : Heap) (tk : Nat) : KS prog w f ρ' tl' { s with heap := h', toks := tk } k Q :=
  fun fl loc' hp' ρ'' tl'' os' h'' tk' m' fl' a b c d e' r => h fl loc' hp' ρ'' tl'' os' h'' tk' m' fl' a (e.trans b) c d e' r
-- the rest of a list of statements
theorem rest_of {st : Stmt} {rest : List Stmt} {k : Fl → Loc → Hp → Prop} {Q : Flow → Shared → Prop} (ih : IH prog w K p loose mean mg mb n rec) (ok : FmOk K p loose mean mg mb f n) (hQ : KS prog w f ρ tl s k Q)
    (h : ∀ Q' : Flow → Shared → Prop, (∀ loc' hp' m' ρ' tl' os' h' tk', rec (.sts f.cs rest loc' hp' k) → Ext ρ tl ρ' tl' → At prog w f m' ρ' tl' hp' os' loc' { s with heap := h', toks := tk' } → Q' .next { s with heap := h', toks := tk' }) →
      (∀ loc' hp' v v' m' ρ' tl' os' h' tk', k (.ret v) loc' hp' → Ext ρ tl ρ' tl' → VR ρ' tl' v v' → At prog w f m' ρ' tl' hp' os' loc' { s with heap := h', toks := tk' } → Q' (.ret v') { s with heap := h', toks := tk' }) → wpAny (model prog w) f.A (exec st f.env) Q' NE s) :
    wpAny (model prog w) f.A (execs (st :: rest) f.env) Q NE s := by
  refine wpAny_execs_cons (h _ (fun loc' hp' m' ρ' tl' os' h' tk' a b x' => ?_) (fun loc' hp' v v' m' ρ' tl' os' h' tk' a b r x' => ?_))
  · exact ih.sts ok a x' (hQ.ext b h' tk')
  · exact hQ (.ret v) loc' hp' ρ' tl' os' h' tk' m' (.ret v') a b x'.1 x'.2.1 x'.2.2 ⟨v', rfl, r⟩

theorem sound_while {cs : Scope} {t : Expr} {b : List Stmt} {k : Loc → Hp → Prop} {Q : Flow → Shared → Prop} (ih : IH prog w K p loose mean mg mb n rec) (ok : FmOk K p loose mean mg mb f n) (hcs : f.cs = cs) : ∀ (c : Nat) {m : Str → Option Value} {ρ : List Addr} {tl : Led} {hp : Hp} {os : List Obj} {loc : Loc} {s : Shared},
    whileW rec cs t b k c loc hp → At prog w f m ρ tl hp os loc s →
    (∀ loc' hp' m' ρ' tl' os' h' tk', k loc' hp' → Ext ρ tl ρ' tl' → At prog w f m' ρ' tl' hp' os' loc' { s with heap := h', toks := tk' } → Q .next { s with heap := h', toks := tk' }) →
    WhlRest prog w f.A NE f.env t b [] Q c s := by
  subst hcs
  intro c
  induction c with
  | zero => intro m ρ tl hp os loc s h; exact h.elim
  | succ c ic =>
    intro m ρ tl hp os loc s h x hQ
    refine whl_turn PassesOwn.never (ih.tst ok h x fun v ρ' tl' os' hp' h' tk' a b' x' => ?_)
    cases v with
    | true =>
      refine WhlIf.yes rfl (ih.sts ok a x' fun fl loc'' hp'' ρ'' tl'' os'' h'' tk'' m'' fl' a2 b2 F2 H2 L2 r2 => ?_)
      cases fl with
      | next =>
        have r2 : fl' = .next := r2
        subst r2
        exact ic a2 ⟨F2, H2, L2⟩ fun loc3 hp3 m3 ρ3 tl3 os3 h3 tk3 a3 b3 x3 => hQ loc3 hp3 m3 ρ3 tl3 os3 h3 tk3 a3 (b'.trans (b2.trans b3)) x3
      | ret v => exact a2.elim
    | false => exact WhlIf.no rfl (wpAny_execs_nil (hQ loc hp' m ρ' tl' os' h' tk' a b' x'))

theorem snd_aug {op : Operator} {a b : V} {a' b' : Value} {k : V → Prop} {Q : Value → Shared → Prop} {A : Around} (hop : op = .Add ∨ op = .Sub) (h : binW op a b k) (ra : VR ρ tl a a') (rb : VR ρ tl b b')
    (hQ : ∀ v v' tk, k v → VR ρ tl v v' → Q v' { s with toks := tk }) : wpAny (model prog w) A (inplaceOp op a' b') Q NE s := by
  unfold binW at h
  split at h
  · obtain ⟨t, rfl⟩ := ra
    obtain ⟨u, rfl⟩ := rb
    rcases hop with rfl | rfl
    · exact PySem.AutoIntOps.iadd_0 (hQ _ _ _ h ⟨_, rfl⟩)
    · exact PySem.AutoIntOps.isub_0 (hQ _ _ _ h ⟨_, rfl⟩)
  · exact h.elim

theorem sound_sts {cs : Scope} {ss : List Stmt} {k : Fl → Loc → Hp → Prop} (ih : IH prog w K p loose mean mg mb n rec) (h : stepS K rec cs ss loc hp k) : Snd prog w K p loose mean mg mb (n + 1) (.sts cs ss loc hp k) := by
  rintro f rfl ok m ρ tl os s Q x hQ
  have ok' := ok.pred
  cases ss with
  | nil => exact wpAny_execs_nil (hQ .next loc hp ρ tl os s.heap s.toks m .next h (Ext.refl _ _) x.1 x.2.1 x.2.2 rfl)
  | cons st rest =>
    unfold stepS at h
    dsimp only at h
    refine rest_of ih ok' hQ fun Q' hN hR => ?_
    split at h
    · -- Expr
      obtain ⟨h1, h⟩ := need_of h
      refine wpAny_Expr_any (ih.ex ok' h x fun v v' ρ' tl' os' hp' h' tk' a b rv x' => hN loc hp' m ρ' tl' os' h' tk' a b x') (interactive_of ok'.ck) (swapsWith_of h1 _ _ _)
    · -- Assign
      obtain ⟨h1, h⟩ := need_of h
      split at h
      · obtain ⟨h2, h⟩ := need_of h
        refine wpAny_Assign_Name (ih.ex ok' h x fun v v' ρ' tl' os' hp' h' tk' a b rv x' => ?_) (swapsWith_of h1 _ _ _)
        exact snd_bindName ok' h2 rv x' fun h'' x'' => hN _ hp' _ ρ' tl' os' h'' _ a b x''
      · refine plainObj_wpAny_Assign_Attribute (ih.ex ok' h x fun v v' ρ' tl' os' hp' h' tk' a b rv x' => ?_) (swapsWith_of h1 _ _ _)
        refine ih.ex ok' a x' fun ov ov' ρ'' tl'' os'' hp'' h'' tk'' a2 b2 ro x'' => ?_
        exact snd_set ok' a2 ro (rv.ext b2) x'' fun hp3 os3 h3 tk3 a3 F3 H3 => hN loc hp3 m ρ'' tl'' os3 h3 tk3 a3 (b.trans b2) ⟨F3, H3, x''.2.2⟩
      · split at h
        · refine wpAny_Assign_Subscript (ih.ex ok' h x fun v v' ρ' tl' os' hp' h' tk' a b rv x' => ?_) (swapsWith_of h1 _ _ _)
          refine ih.ex ok' a x' fun ov ov' ρ'' tl'' os'' hp'' h'' tk'' a2 b2 ro x'' => ?_
          refine wpAny_Constant_str ?_
          exact snd_dictSet a2 ro (rv.ext b2) (x''.toks _) fun hp3 os3 h3 tk3 a3 F3 H3 => hN loc hp3 m ρ'' tl'' os3 h3 tk3 a3 (b.trans b2) ⟨F3, H3, x''.2.2⟩
        · refine wpAny_Assign_Subscript (ih.ex ok' h x fun v v' ρ' tl' os' hp' h' tk' a b rv x' => ?_) (swapsWith_of h1 _ _ _)
          refine ih.ex ok' a x' fun ov ov' ρ'' tl'' os'' hp'' h'' tk'' a2 b2 ro x'' => ?_
          refine wpAny_Constant_int ?_
          exact snd_listSet a2 ro (rv.ext b2) (x''.toks _) fun hp3 os3 h3 tk3 a3 F3 H3 => hN loc hp3 m ρ'' tl'' os3 h3 tk3 a3 (b.trans b2) ⟨F3, H3, x''.2.2⟩
        · exact h.elim
      · rename_i tgs i q hh
        clear hh
        split at h
        · rename_i es j q2
          have S := swapP_ok (cs := f.cs) (ts := tgs) (vs := es) (i := i) (j := j) (q := q) (q2 := q2) (env := f.env) rfl ok'.ck
          split at h
          · rename_i e1
            obtain ⟨h2, h⟩ := need_of h
            refine Assign_Tuple (Tuple_ (ih.args ok' h x _ fun vs vs' ρ' tl' os' hp' h' tk' a b rv x' => ?_)) rfl (S.1 e1)
            obtain ⟨h3, a⟩ := need_of a
            simp only [Bool.and_eq_true, decide_eq_true_eq] at h3
            have l1 := rv.length
            refine snd_newTuple x' (by omega) fun D h'' x'' e'' => ?_
            have ht := x''.2.1.news.isTup (List.mem_append_right _ (.head _))
            refine unpackN_ x''.1 x''.2.1.news ht rfl (by rw [assignEach_names h2, List.length_map, List.size_toArray]; omega) (noStars h2) fun h3' F3 N3 => ?_
            rw [assignEach_names h2, List.map_map]
            have x3 : At prog w f m ρ' _ hp' os' loc { s with heap := h3', toks := tk' } := ⟨F3, x''.2.1.moved N3, x''.2.2⟩
            exact snd_stores ih ok' a (rv.mono fun _ _ y => y.ext e'') x3 fun loc4 hp4 m4 ρ4 tl4 os4 h4 tk4 a4 b4 x4 => hN loc4 hp4 m4 ρ4 tl4 os4 h4 tk4 a4 (b.trans (e''.trans b4)) x4
          · rename_i e1
            obtain ⟨y1, y2, p1, p2, rfl, l1, l2, e2⟩ := S.2 e1
            refine Assign_Tuple_swapped (names := [y1, y2]) (Tuple_ (ih.args ok' h x _ fun vs vs' ρ' tl' os' hp' h' tk' a b rv x' => ?_)) rfl e2
            obtain ⟨h2, a⟩ := need_of a
            have h2 : vs.length = 2 := by simpa using h2
            have h3 : vs'.length = 2 := rv.length ▸ h2
            refine snd_newTuple x' (by omega) fun D h'' x'' e'' => ?_
            have ht := x''.2.1.news.isTup (List.mem_append_right _ (.head _))
            refine unpackItemsN_ x''.1 x''.2.1.news ht rfl (by simpa using h3.symm) fun h3' F3 N3 => ?_
            have x3 : At prog w f m ρ' _ hp' os' loc { s with heap := h3', toks := tk' } := ⟨F3, x''.2.1.moved N3, x''.2.2⟩
            cases rv with
            | nil => simp at h2
            | @cons va va' vs vs' r1 t1 =>
              cases t1 with
              | nil => simp at h2
              | @cons vb vb' vs vs' r2 t2 =>
                cases t2 with
                | cons _ _ => simp at h2
                | nil =>
                  obtain ⟨_, a⟩ := need_of a
                  obtain ⟨_, a⟩ := need_of a
                  refine assignInOrder_cons (wpAny_bindName (snd_bindName ok' l2 (r2.ext e'') x3 fun h4 x4 => ?_))
                  refine assignInOrder_cons (wpAny_bindName (snd_bindName ok' l1 (r1.ext e'') x4 fun h5 x5 => ?_))
                  exact assignInOrder_nil (hN _ hp' _ ρ' _ os' h5 _ a (b.trans e'') x5)
          · exact h.elim
        · obtain ⟨h2, h⟩ := need_of h
          simp only [Bool.and_eq_true, decide_eq_true_eq] at h2
          refine Assign_Tuple (ih.ex ok' h x fun v v' ρ' tl' os' hp' h' tk' a b rv x' => ?_) rfl rfl
          split at a
          · rename_i a1 a2
            obtain ⟨D, t, u, rfl, hm⟩ := rv
            have ht := x'.2.1.news.isTup (List.mem_append_right _ hm)
            refine unpackN_ x'.1 x'.2.1.news ht rfl (by rw [assignEach_names h2.2, List.length_map]; exact h2.1) (noStars h2.2) fun h3' F3 N3 => ?_
            rw [assignEach_names h2.2, List.map_map]
            have x3 : At prog w f m ρ' tl' hp' os' loc { s with heap := h3', toks := tk' } := ⟨F3, x'.2.1.moved N3, x'.2.2⟩
            exact snd_stores ih ok' a (.cons ⟨t, rfl⟩ (.cons ⟨u, rfl⟩ .nil)) x3 fun loc4 hp4 m4 ρ4 tl4 os4 h4 tk4 a4 b4 x4 => hN loc4 hp4 m4 ρ4 tl4 os4 h4 tk4 a4 (b.trans b4) x4
          · exact a.elim
        · exact h.elim
      · exact h.elim
    · -- AugAssign
      split at h
      · rename_i op e pos o po a q
        refine wpAny_AugAssign_AttributeAny (ih.ex ok' h x fun ov ov' ρ' tl' os' hp' h' tk' a1 b ro x' => ?_)
        refine snd_attr ok' a1 ro x' fun old old' tk2 a2 r2 => ?_
        refine ih.ex ok' a2 (x'.toks tk2) fun v v' ρ3 tl3 os3 hp3 h3 tk3 a3 b3 r3 x3 => ?_
        split at a3
        · refine snd_aug (.inl rfl) a3 (r2.ext b3) r3 fun nw nw' tk4 a4 r4 => ?_
          exact snd_set ok' a4 (ro.ext b3) r4 (x3.toks tk4) fun hp5 os5 h5 tk5 a5 F5 H5 => hN loc hp5 m ρ3 tl3 os5 h5 tk5 a5 (b.trans b3) ⟨F5, H5, x3.2.2⟩
        · refine snd_aug (.inr rfl) a3 (r2.ext b3) r3 fun nw nw' tk4 a4 r4 => ?_
          exact snd_set ok' a4 (ro.ext b3) r4 (x3.toks tk4) fun hp5 os5 h5 tk5 a5 F5 H5 => hN loc hp5 m ρ3 tl3 os5 h5 tk5 a5 (b.trans b3) ⟨F5, H5, x3.2.2⟩
        · exact a3.elim
      · exact h.elim
    · -- If
      refine wpAny_If (ih.tst ok' h x fun c ρ' tl' os' hp' h' tk' a b x' => ?_)
      have go : ∀ {ss : List Stmt}, rec (.sts f.cs ss loc hp' fun fl loc hp => match fl with | .next => rec (.sts f.cs rest loc hp k) | .ret v => k (.ret v) loc hp) → wpAny (model prog w) f.A (execs ss f.env) Q' NE { s with heap := h', toks := tk' } := by
        intro ss hs
        refine ih.sts ok' hs x' fun fl loc'' hp'' ρ'' tl'' os'' h'' tk'' m'' fl' a2 b2 F2 H2 L2 r2 => ?_
        cases fl with
        | next =>
          have r2 : fl' = .next := r2
          subst r2
          exact hN loc'' hp'' m'' ρ'' tl'' os'' h'' tk'' a2 (b.trans b2) ⟨F2, H2, L2⟩
        | ret v =>
          obtain ⟨v', rfl, r2⟩ := r2
          exact hR loc'' hp'' v v' m'' ρ'' tl'' os'' h'' tk'' a2 (b.trans b2) r2 ⟨F2, H2, L2⟩
      cases c with
      | true => exact go a
      | false => exact go a
    · -- Return
      split at h
      · exact wpAny_Return_some (ih.ex ok' h x fun v v' ρ' tl' os' hp' h' tk' a b rv x' => hR loc hp' v v' m ρ' tl' os' h' tk' a b rv x')
      · exact wpAny_Return_none (hR loc hp .none .none m ρ tl os s.heap s.toks h (Ext.refl _ _) rfl x)
    · -- While
      split at h
      · exact whl_start 60 (sound_while ih ok' rfl 60 h x fun loc' hp' m' ρ' tl' os' h' tk' a b x' => hN loc' hp' m' ρ' tl' os' h' tk' a b x')
      · exact h.elim
    · exact h.elim
end
end Mine
end
section
namespace Mine
open PySem PySem.W PySem.Spec PySem.Calls PyProof.Rows

theorem sound {prog : Program} {w : World} {K : Frag} {p : Program} {loose : List Str} {mean : ExcName → Option Value} {mg mb : Str → Option Value} (sumOk : SumOk prog w K p loose mean mg mb) (nosum : nsIn K mainGlobals (Str.ofString "sum") = some none) :
    ∀ n j, Wp K n j → Snd prog w K p loose mean mg mb n j := by
  intro n
  induction n with
  | zero => intro j h; exact h.elim
  | succ n ih =>
    intro j h
    have h : step K (Wp K n) j := h
    cases j with
    | ex cs e loc hp k => exact sound_ex sumOk nosum ih h
    | tst cs e loc hp k => exact sound_tst ih h
    | args cs es loc hp k => exact sound_args ih h
    | prs cs ks es loc hp k => exact sound_prs ih h
    | sts cs ss loc hp k => exact sound_sts ih h
    | call g vs hp k => exact sound_call ih h
end Mine
end
section
namespace Mine
open PySem PySem.W PySem.Spec PySem.Calls PyProof.Rows

theorem ints_snoc {vs : List Value} {ns : List Int} (h : IntsAre vs ns) (b : Int) (u : Tok) : IntsAre (vs ++ [.int b u]) (ns ++ [b]) := by
  induction h with
  | nil => exact .cons b u .nil
  | cons i t _ ih => exact .cons i t ih

section
variable {prog : Program} {w : World} {K : Frag} {p : Program} {loose : List Str} {mean : ExcName → Option Value} {mg mb : Str → Option Value}
theorem sum_keep {A : Around} {E : Value → Shared → Prop} {s : Shared} {l : Addr} {vs : List Value} {ns : List Int} {Q : Value → Shared → Prop} (hh : A.handled = none) (hl : s.heap.IsList l vs.toArray) (hi : IntsAre vs ns)
    (h : ∀ h' tk t', (∀ b o, s.heap.get? b = some o → h'.get? b = some o) → Q (.int ns.sum t') { s with heap := h', toks := tk }) :
    wpAny (model prog w) A (call (.builtin "sum") [.ref l]) Q E s := by
  obtain ⟨xs, e⟩ := hi.allInts.items
  have en : ns = numsOf (intItems xs).toList := by rw [← e, ← hi.numsOf]
  rw [nums_intItems] at en
  rw [e] at hl
  refine sum_intListG hh hl fun h' tk t' hk => ?_
  rw [preSum_eq, List.take_of_length_le (by simp)]
  have := h h' tk t' hk
  rw [en] at this
  exact this

open LCg LCp in
theorem comp_rest {A : Around} {h₀ : Heap} {L : Addr} {m : Str → Option Value} {env : Env} {sc : Scope} {p1 : Pos} {s : Shared} {ax : Addr} {its : List Value} {news : Led} {ps : List (Int × Int)} {tl : Led} {ρ : List Addr} {Q : Value → Shared → Prop}
    (hn : sc.names = [(Str.ofString ".0", .local), (Str.ofString "sent_at", .local), (Str.ofString "size", .local)]) (hk : sc.kind = .function) (F2p : F2 (fun (p : Int × Int) v => VR ρ tl (.pair p.1 p.2) v) ps its) (sub : ∀ p ∈ tl, p ∈ news) (hS : SrcAt h₀ ax its.toArray news)
    (fin : ∀ ys, IntsAre ys (ps.map (·.2)) → FinE h₀ L m s Q ys news) :
    ∀ (k i : Nat) (ys : List Value), i + k = its.length → IntsAre ys ((ps.take i).map (·.2)) →
      CompRestP prog w A h₀ L m env (.Name (Str.ofString "size") p1) (Str.ofString "sent_at") (Str.ofString "size") sc [] s (SrcAt h₀ ax its.toArray) (fun i v => its.toArray[i]? = some v) (FinE h₀ L m s Q) k i ys news := by
  intro k
  induction k with
  | zero =>
    intro i ys e hi
    refine CompRestP.zero (fin ys ?_)
    rw [List.take_of_length_le (by rw [F2p.length]; omega)] at hi
    exact hi
  | succ k ih =>
    intro i ys e hi
    refine CompRestP.succ fun v hv => ?_
    have hv : its[i]? = some v := by simpa using hv
    have hlt : i < ps.length := by rw [F2p.length]; omega
    obtain ⟨v', h1, h2⟩ := F2p.get (List.getElem?_eq_getElem hlt)
    rw [hv] at h1
    cases h1
    obtain ⟨t, u1, u2, rfl, hm⟩ := h2
    refine ⟨t, _, _, _, 0, rfl, sub _ hm, rfl, rfl, fun I oI C oC D m₂ h tk E' hoC _ hx F N off ne => ?_⟩
    refine LCgL.ld_own (s := { s with heap := h, toks := tk }) N (.tail _ (.head _)) hoC hx (CompEnd.intro F N news (fun p hp => hp) off hS ?_) ?_ ?_ (by decide +kernel)
    · refine ih (i + 1) _ (by omega) ?_
      rw [List.take_add_one, List.getElem?_eq_getElem hlt, List.map_append]
      exact ints_snoc hi _ _
    · exact hk
    · exact lookup_relabel_local (by rw [hn]; decide +kernel)

theorem sumOk : SumOk prog w K p loose mean mg mb := by
  intro rec n f m ρ tl hp os loc s args it pos px k Q ih ok hv hl hg h x hQ
  unfold sumView at hv
  split at hv
  · split at hv
    · rename_i sc lp hc
      obtain ⟨rfl, rfl, rfl, hn, hk⟩ := hc
      cases hv
      refine Call_ (nameX_B x.1 ok.X (topRead_of ok.T) hg boot_sum (by decide +kernel) ?_ ok.ck hl (by decide +kernel)) rfl
      refine PyProof.Rows.callWith_builtin1 (args_cons ?_ rfl) rfl rfl
      refine LCp.ListComp_P (cl := []) x.1 ?_ ?_ hk ?_ (by rw [hn]; decide +kernel) (by rw [hn]; decide +kernel) (by decide +kernel) ?_
      · unfold closureFor; rw [hn]; rfl
      · rw [hn]; decide +kernel
      · rw [hn]; decide +kernel
      refine ih.ex ok h x fun o v' ρ' tl' os' hp' h' tk' a b rv x' => ?_
      split at a
      · split at a
        · rename_i i ps e
          obtain ⟨hlen, a⟩ := need_of a
          have hlen : ps.length < 1000 := by simpa using hlen
          obtain ⟨ax, ea, rfl⟩ := rv
          obtain ⟨ob, q1, ⟨its, c, rfl, q3⟩, q4⟩ := x'.2.1.getA e ea
          have hsz : its.toArray.size ≤ sizeLine := by rw [sizeLine_eq, List.size_toArray, ← q3.length]; omega
          refine LCp.SrcLP.ledger rfl x'.1 x'.2.1.news q4 hsz fun g => ?_
          refine comp_rest hn hk q3 (fun p hp => List.mem_append_right _ hp) (.inr ⟨_, q4, rfl, _, rfl⟩) (fun ys iy D h2 tk2 F2 N2 _ => ?_) its.toArray.size 0 [] (by simp) .nil
          refine args_nil (sum_keep rfl ⟨_, (N2 _ (.head _)).1, rfl, _, rfl⟩ iy fun h3 tk3 t3 hk3 => ?_)
          exact hQ _ hp' ρ' tl' os' h3 tk3 _ a b (F2.keeps hk3) (x'.2.1.moved (News.grown (fun p hp => N2 p (.tail _ hp)) hk3)) ⟨_, rfl⟩
        · exact a.elim
      · exact a.elim
    · cases hv
  · cases hv
end
end Mine
end
section
namespace Mine
open PySem PySem.W PySem.Spec PySem.Calls PyProof.Rows

abbrev Tr := List V → Hp → (V → Hp → Prop) → Prop
abbrev Hk := Nat → Option Tr
def hkJ (C : Hk) (X : Prop) (j : Job) : Prop := match j with
  | .call (.kref a) vs hp k => (match C a with | some T => T vs hp k | none => X)
  | _ => X
def WpC (K : Frag) (C : Hk) (n : Nat) (j : Job) : Prop := @Nat.rec (fun _ => Job → Prop) (fun _ => False) (fun _ ih j => hkJ C (step K ih j) j) n j

section
variable {prog : Program} {w : World} {K : Frag} {p : Program} {loose : List Str} {mean : ExcName → Option Value} {mg mb : Str → Option Value}
def HkOk (prog : Program) (w : World) (K : Frag) (p : Program) (loose : List Str) (mean : ExcName → Option Value) (mg mb : Str → Option Value) (C : Hk) (c : Nat) : Prop :=
  ∀ a T, C a = some T → ∀ vs hp k, T vs hp k → Snd prog w K p loose mean mg mb c (.call (.kref a) vs hp k)
theorem Snd.up {n : Nat} {j : Job} (h : Snd prog w K p loose mean mg mb n j) : Snd prog w K p loose mean mg mb (n + 1) j := by
  cases j with
  | ex cs e loc hp k => exact fun f hf ok => h f hf ok.pred
  | tst cs e loc hp k => exact fun f hf ok => h f hf ok.pred
  | args cs es loc hp k => exact fun f hf ok => h f hf ok.pred
  | prs cs ks es loc hp k => exact fun f hf ok => h f hf ok.pred
  | sts cs ss loc hp k => exact fun f hf ok => h f hf ok.pred
  | call g vs hp k => exact fun f ok => h f ok.pred
theorem Snd.ups {c : Nat} {j : Job} (h : Snd prog w K p loose mean mg mb c j) : ∀ n, Snd prog w K p loose mean mg mb (n + c) j
  | 0 => by rw [Nat.zero_add]; exact h
  | n + 1 => by rw [Nat.add_right_comm]; exact (Snd.ups h n).up
theorem soundC {C : Hk} {c : Nat} (hC : HkOk prog w K p loose mean mg mb C c) (nosum : nsIn K mainGlobals (Str.ofString "sum") = some none) :
    ∀ n j, WpC K C n j → Snd prog w K p loose mean mg mb (n + c) j := by
  intro n
  induction n with
  | zero => intro j h; exact h.elim
  | succ n ih =>
    intro j h
    rw [Nat.add_right_comm]
    cases j with
    | ex cs e loc hp k => exact sound_ex sumOk nosum ih h
    | tst cs e loc hp k => exact sound_tst ih h
    | args cs es loc hp k => exact sound_args ih h
    | prs cs ks es loc hp k => exact sound_prs ih h
    | sts cs ss loc hp k => exact sound_sts ih h
    | call g vs hp k =>
      cases g with
      | kref a =>
        have h : (match C a with | some T => T vs hp k | none => step K (WpC K C n) (.call (.kref a) vs hp k)) := h
        cases e : C a with
        | some T =>
          rw [e] at h
          exact ((hC a T e vs hp k h).ups n).up
        | none =>
          rw [e] at h
          exact sound_call ih h
      | _ => exact sound_call ih h
end
end Mine
end
section
namespace Mine
open PySem PySem.W PySem.Spec PySem.Calls PyProof.Rows
def sndO (win fl cr : Int) (beg idl emp seen : V) (meets fr fc : Int) : O := .attrs [(S "datagram", .int 1200), (S "window", .int win), (S "threshold", .int 8400), (S "recovery_at", .int 1), (S "in_flight", .int fl), (S "credit", .int cr),
  (S "top_window", .int 12000), (S "prior_window", .int 12000), (S "begun_at", beg), (S "idle_since", idl), (S "empty_since", emp), (S "seen_at", seen), (S "meets_after", .int meets), (S "friendly", .int fr), (S "friendly_credit", .int fc)]
def wldO (now : Int) (eld : Bool) (win : Int) (beg idl : Bool) (pas : Int) (emp : V) (seen fr rest cr : Int) : O := .dict [(S "now", .int now), (S "outs", .ref 5), (S "elder", .bool eld), (S "window", .int win), (S "begun", .bool beg), (S "idle", .bool idl),
  (S "passed", .int pas), (S "empty", emp), (S "seen", .int seen), (S "friendly", .int fr), (S "rest", .int rest), (S "credit", .int cr), (S "meets", .int 1957433)]
def nohk : Hk := fun _ => none
def cw (e m : Int) : Int := 12000 + (2400 * (e - m) * (e - m) * (e - m)).fdiv 5000000000000000000
def cwOk (e m : Int) : Prop := mulB 2400 (e - m) = true ∧ mulB (2400 * (e - m)) (e - m) = true ∧ mulB (2400 * (e - m) * (e - m)) (e - m) = true
def cwT : Tr := fun vs hp k => match vs with
  | [.int e, .int m, .int t, .int d] => t = 12000 ∧ d = 1200 ∧ cwOk e m ∧ k (.int (cw e m)) hp
  | _ => False
theorem cw_eq (P : Params) (hp : Hp) (e m : Int) (k : V → Hp → Prop) : Wp (Kx P) 30 (.call (.kref 147) [.int e, .int m, .int 12000, .int 1200] hp k) =
    (need (mulB 2400 (e - m)) (need (mulB (2400 * (e - m)) (e - m)) (need (mulB (2400 * (e - m) * (e - m)) (e - m)) (k (.int (cw e m)) hp)))) := by kernel_rfl
theorem cw_ok (P : Params) (vs : List V) (hp : Hp) (k : V → Hp → Prop) (h : cwT vs hp k) : Wp (Kx P) 30 (.call (.kref 147) vs hp k) := by
  unfold cwT at h
  split at h
  · obtain ⟨rfl, rfl, ⟨h1, h2, h3⟩, h⟩ := h
    rw [cw_eq]
    exact need_in h1 (need_in h2 (need_in h3 h))
  · exact h.elim
def takeT : Tr := fun vs hp k => match vs, hp with
  | [.ref 0, .int many], .list [.ref 1, .int c] :: .ints ns :: rest => 0 ≤ c ∧ ns.length ≤ 56 ∧ 0 < many ∧ many < 10 ∧ ∀ r, 0 ≤ r → r < many → k (.int r) (.list [.ref 1, .int (c + 1)] :: .ints ns :: rest)
  | _, _ => False
theorem take_eq (P : Params) (c many : Int) (ns : List Int) (rest : Hp) (k : V → Hp → Prop) : Wp (Kx P) 30 (.call (.kref 257) [.ref 0, .int many] (.list [.ref 1, .int c] :: .ints ns :: rest) k) =
    need (decide (ns.length < 2 ^ 62)) (br (decide (c + 1 ≤ (ns.length : Int)))
      (need (decide (0 ≤ c + 1 - 1) && decide (c + 1 - 1 < (ns.length : Int)) && decide (c + 1 - 1 < 2 ^ 63)) (need (divB many)
        (k (.int ((if ns.getD (c + 1 - 1).toNat 0 < 0 then -ns.getD (c + 1 - 1).toNat 0 else ns.getD (c + 1 - 1).toNat 0).fmod many)) (.list [.ref 1, .int (c + 1)] :: .ints ns :: rest))))
      (need (divB many) (k (.int ((7 * (c + 1) + (c + 1).fdiv 4).fmod many)) (.list [.ref 1, .int (c + 1)] :: .ints ns :: rest)))) := by kernel_rfl
theorem take_ok (P : Params) (vs : List V) (hp : Hp) (k : V → Hp → Prop) (h : takeT vs hp k) : Wp (Kx P) 30 (.call (.kref 257) vs hp k) := by
  unfold takeT at h
  split at h
  · obtain ⟨h1, h2, h3, h4, h⟩ := h
    rename_i many c ns rest
    have hd : divB many = true := by unfold divB; simp only [Bool.and_eq_true, decide_eq_true_eq]; omega
    rw [take_eq]
    refine need_in (decide_eq_true (by omega)) (br_in (fun e => ?_) fun _ => need_in hd (h _ (Int.fmod_nonneg_of_pos _ h3) (Int.fmod_lt_of_pos _ h3)))
    have e := of_decide_eq_true e
    refine need_in ?_ (need_in hd (h _ (Int.fmod_nonneg_of_pos _ h3) (Int.fmod_lt_of_pos _ h3)))
    simp only [Bool.and_eq_true, decide_eq_true_eq]
    omega
  · exact h.elim
def hk1 : Hk := fun a => if a = 147 then some cwT else if a = 257 then some takeT else none
end Mine
end
section
namespace Mine
open PySem PySem.W PySem.Spec PySem.Calls PyProof.Rows
-- the sender, the world
structure Sn where
  win : Int
  fl : Int
  cr : Int
  beg : V
  idl : V
  emp : V
  seen : V
  meets : Int
  fr : Int
  fc : Int
structure Wl where
  now : Int
  eld : Bool
  win : Int
  beg : Bool
  idl : Bool
  pas : Int
  emp : V
  seen : Int
  fr : Int
  re : Int
  cr : Int
def sO (s : Sn) : O := sndO s.win s.fl s.cr s.beg s.idl s.emp s.seen s.meets s.fr s.fc
def wO (w : Wl) : O := wldO w.now w.eld w.win w.beg w.idl w.pas w.emp w.seen w.fr w.re w.cr
abbrev H3 (c : Int) (ns : List Int) (s : Sn) (r : Hp) : Hp := .list [.ref 1, .int c] :: .ints ns :: .inst 248 3 :: sO s :: r

def noteEmpty (s : Sn) (now : Int) (k : Sn → Prop) : Prop := br (s.fl == 0) (k { s with emp := .int now }) (k s)
def leaveOut (s : Sn) (sent : Int) (k : Sn → Prop) : Prop := match s.emp with
  | .int e => br (decide (e ≤ sent)) (match s.beg, s.idl with
      | .int b, .none => k { s with beg := .int (b + (sent - e)), emp := .none }
      | _, _ => k { s with emp := .none }) (k s)
  | _ => k s
def pauseP (s : Sn) (now : Int) (k : Sn → Prop) : Prop := match s.beg, s.idl with
  | .int _, .none => k { s with idl := .int now }
  | _, _ => k s
def gf1 (sh win fr fc size : Int) (k : Int → Int → Prop) : Prop :=
  need (divB (17 * win)) (need (mulB ((fc + sh * 1200 * size).fdiv (17 * win)) 17) (need (mulB ((fc + sh * 1200 * size).fdiv (17 * win) * 17) win)
    (k (fr + (fc + sh * 1200 * size).fdiv (17 * win)) (fc + sh * 1200 * size - (fc + sh * 1200 * size).fdiv (17 * win) * 17 * win))))
def gfP (win fr fc size : Int) (k : Int → Int → Prop) : Prop := br (decide (12000 ≤ fr)) (gf1 17 win fr fc size k) (gf1 9 win fr fc size k)
def gl (b e m : Int) : Int := if b + b.fdiv 2 < (if b > cw e m then b else cw e m) then b + b.fdiv 2 else (if b > cw e m then b else cw e m)
def cwQ (e m : Int) (X : Prop) : Prop := (12000 : Int) = 12000 ∧ (1200 : Int) = 1200 ∧ cwOk e m ∧ X
def gcP (win fr cr el sm m size : Int) (k : Int → Int → Prop) : Prop := cwQ el m (br (decide (cw el m < fr)) (k (if fr > win then fr else win) cr)
  (cwQ (el + sm) m (need (mulB (gl win (el + sm) m - win) size) (need (divB win) (need (mulB ((cr + (gl win (el + sm) m - win) * size).fdiv win) win)
    (k (win + (cr + (gl win (el + sm) m - win) * size).fdiv win) (cr + (gl win (el + sm) m - win) * size - (cr + (gl win (el + sm) m - win) * size).fdiv win * win)))))))
-- the sender's growth, once begun at b
def growP (s : Sn) (b size now sm : Int) (k : Sn → Prop) : Prop :=
  gfP s.win s.fr s.fc size fun fr fc => gcP s.win fr s.cr (now - b) sm s.meets size fun win cr => k { s with win := win, cr := cr, fr := fr, fc := fc }
def ackP (s : Sn) (size sent : Int) (lim : Bool) (now sm : Int) (k : Sn → Prop) : Prop :=
  leaveOut { s with seen := .int now } sent fun s => noteEmpty { s with fl := s.fl - size } now fun s =>
    br (!lim) (pauseP s now k) (br (decide (sent ≤ 1)) (k s) (br (decide (s.win < 8400)) (k { s with win := s.win + size })
      (match s.beg with
        | .int b => (match s.idl with
            | .int i => growP { s with beg := .int (b + (now - i)), idl := .none } (b + (now - i)) size now sm k
            | _ => growP s b size now sm k)
        | _ => growP { s with beg := .int now, meets := 1957433, fr := s.win, fc := 0 } now size now sm k)))
section
variable (P : Params) (c : Int) (ns : List Int) (r : Hp) (win fl cr b i e : Int) (seen : V) (m fr fc size sent now sm : Int) (lim : Bool) (k : V → Hp → Prop)
abbrev ackJ (s : Sn) : Job := .call (.kref 168) [.ref 2, .int size, .int sent, .bool lim, .int now, .int sm] (H3 c ns s r) k
end
end Mine
end
section
namespace Mine
open PySem PySem.W PySem.Spec PySem.Calls PyProof.Rows
abbrev Outs := List (Int × Int)
def anyT (c : Int) (ns : List Int) (many : Int) (F : Int → Prop) : Prop := 0 ≤ c ∧ ns.length ≤ 56 ∧ 0 < many ∧ many < 10 ∧ ∀ r, 0 ≤ r → r < many → F r
def menuT (ms : List Int) (j : Int) (F : Int → Prop) : Prop := need (decide (0 ≤ j) && decide (j < ms.length)) (F (ms.getD j.toNat 0))
-- the world's growth
def gw2 (sh : Int) (w : Wl) (size sm : Int) (k : Wl → Prop) : Prop :=
  need (divB (17 * w.win)) (need (divB (17 * w.win)) (cwQ w.pas 1957433 (br (decide (cw w.pas 1957433 < w.fr + (w.re + sh * 1200 * size).fdiv (17 * w.win)))
    (k { w with win := if w.fr + (w.re + sh * 1200 * size).fdiv (17 * w.win) > w.win then w.fr + (w.re + sh * 1200 * size).fdiv (17 * w.win) else w.win, fr := w.fr + (w.re + sh * 1200 * size).fdiv (17 * w.win), re := (w.re + sh * 1200 * size).fmod (17 * w.win) })
    (cwQ (w.pas + sm) 1957433 (need (mulB (gl w.win (w.pas + sm) 1957433 - w.win) size) (need (divB w.win) (need (divB w.win)
      (k { w with win := w.win + (w.cr + (gl w.win (w.pas + sm) 1957433 - w.win) * size).fdiv w.win, cr := (w.cr + (gl w.win (w.pas + sm) 1957433 - w.win) * size).fmod w.win, fr := w.fr + (w.re + sh * 1200 * size).fdiv (17 * w.win), re := (w.re + sh * 1200 * size).fmod (17 * w.win) }))))))))
def gw1 (w : Wl) (size sm : Int) (k : Wl → Prop) : Prop := br (decide (12000 ≤ w.fr)) (gw2 17 w size sm k) (gw2 9 w size sm k)
def growW (w : Wl) (size sm : Int) (k : Wl → Prop) : Prop := br (!w.beg) (gw1 { w with beg := true, pas := 0, fr := w.win } size sm k) (gw1 w size sm k)
-- an acknowledgement
def ackedP (c : Int) (ns : List Int) (s : Sn) (w : Wl) (outs : Outs) (k : Int → Sn → Wl → Outs → Prop) : Prop := match outs with
  | [] => False
  | p :: o => need (decide (o.length < 1000)) (anyT c ns 5 fun r => anyT (c + 1) ns 3 fun j => menuT [100000, 1000, 400000] j fun sm =>
      ackP s p.2 p.1 (decide (r < 4)) w.now sm fun s => br (decide (r < 4)) (growW { w with idl := false } p.2 sm fun w => endP (c + 1 + 1) s w o) (br w.beg (endP (c + 1 + 1) s { w with idl := true } o) (endP (c + 1 + 1) s w o)))
where endP (c : Int) (s : Sn) (w : Wl) (o : Outs) : Prop := br (!o.isEmpty) (k c s { w with seen := w.pas, emp := .none } o) (br w.eld (k c s { w with seen := w.pas, emp := .none } o) (k c s { w with seen := w.pas, emp := .int w.pas } o))
section
variable (P : Params) (c : Int) (ns : List Int) (r : Hp) (win fl cr b i e : Int) (seen : V) (m fr fc size sent now sm : Int) (k : V → Hp → Prop) (eld idl : Bool) (win' pas seen' fr' re' cr' : Int) (emp' : V) (o : Outs) (lst ins snd : O)
abbrev H5 (c : Int) (ns : List Int) (s : Sn) (w : Wl) (outs : Outs) (r : Hp) : Hp := H3 c ns s (wO w :: .pairs outs :: r)
end
end Mine
end
section
namespace Mine
open PySem PySem.W PySem.Spec PySem.Calls PyProof.Rows
abbrev KT := Int → Sn → Wl → Outs → Prop
def orB (a b : Bool) (X Y : Prop) : Prop := br a X (br b X Y)
def checkP (c : Int) (s : Sn) (w : Wl) (o : Outs) (k : KT) : Prop := need (decide (o.length < 1000)) (br w.eld
  (br (!(s.win == w.win && s.fl == (o.map (·.2)).sum + 1200)) False (k c s w o)) (br (!(s.win == w.win && s.fl == (o.map (·.2)).sum + 0)) False (k c s w o)))
def discP (s : Sn) (size : Int) (k : Sn → Prop) : Prop := br (decide (0 < size)) (match s.seen, s.emp with
  | .int t, .none => noteEmpty { s with fl := s.fl - size } t k
  | _, _ => k { s with fl := s.fl - size }) (k { s with fl := s.fl - size })
def body1b (c : Int) (s : Sn) (w : Wl) (o : Outs) (k : KT) : Prop := br o.isEmpty (match w.emp with
  | .int e => k c s { w with eld := false, emp := .int e, pas := e } o
  | _ => k c s { w with eld := false, emp := .int w.seen, pas := w.seen } o) (k c s { w with eld := false } o)
def body1 (c : Int) (s : Sn) (w : Wl) (o : Outs) (k : KT) : Prop := br w.eld (discP s 1200 fun s => body1b c s w o k)
  (need (!o.isEmpty && decide (o.length < 1000)) (discP s (o.getLastD (0, 0)).2 fun s => body1b c s w o.dropLast k))
def body2 (c : Int) (s : Sn) (w : Wl) (o : Outs) (k : KT) : Prop := br w.eld
  (noteEmpty { s with seen := .int w.now, fl := s.fl - 1200 } w.now fun s => br o.isEmpty (k c s { w with emp := .int w.pas, eld := false, seen := w.pas } o) (k c s { w with eld := false, seen := w.pas } o))
  (k c { s with seen := .int w.now, fl := s.fl - 0 } { w with eld := false, seen := w.pas } o)
def body3 (c : Int) (ns : List Int) (s : Sn) (w : Wl) (o : Outs) (k : KT) : Prop := anyT c ns 3 fun j => menuT [1200, 8400, 300] j fun size => need (decide (o.length < 1000)) (k (c + 1) { s with fl := s.fl + size } w (o ++ [(w.now, size)]))
def formP (form c : Int) (ns : List Int) (s : Sn) (w : Wl) (o : Outs) (k : KT) : Prop :=
  br (form == 3) (orB w.eld (!o.isEmpty) (anyT c ns 2 fun t => br (t == 1) (body1 (c + 1) s w o k) (elifP (c + 1))) (elifP c)) (elifP c)
where elifP (c : Int) : Prop := br (form == 3) (body2 c s w o k) (orB (form == 0) o.isEmpty (body3 c ns s w o k) (ackedP c ns s w o k))
def turnP (c : Int) (ns : List Int) (s : Sn) (w : Wl) (o : Outs) (k : KT) : Prop := anyT c ns 4 fun form => anyT (c + 1) ns 5 fun j => menuT [0, 20000, 100000, 700000, 9900000] j fun step =>
  orB (!o.isEmpty) w.eld (br (!w.idl) (formP form (c + 1 + 1) ns s { w with now := w.now + step, pas := w.pas + step } o fun c s w o => checkP c s w o k) (formP form (c + 1 + 1) ns s { w with now := w.now + step } o fun c s w o => checkP c s w o k))
    (formP form (c + 1 + 1) ns s { w with now := w.now + step } o fun c s w o => checkP c s w o k)
noncomputable def loopBody : List Stmt := match (bodOf (stAt 26)).getD 6 (.Pass noPos) with | .For _ _ b _ _ => b | _ => []
abbrev loc0 : Loc := [(S "box", .ref 0), (S "sender", .ref 2), (S "world", .ref 4)]
def okLoc (loc : Loc) : Prop := loc.lookup (S "box") = some (.ref 0) ∧ loc.lookup (S "sender") = some (.ref 2) ∧ loc.lookup (S "world") = some (.ref 4)
def LK (k : Hp → Prop) (fl : Fl) (loc : Loc) (hp : Hp) : Prop := match fl with
  | .next => okLoc loc ∧ k hp
  | .ret _ => False
def okC : Prop := (some (V.ref 0) = some (V.ref 0)) ∧ (some (V.ref 2) = some (V.ref 2)) ∧ (some (V.ref 4) = some (V.ref 4))
section
variable (P : Params) (c : Int) (ns : List Int) (r : Hp) (win fl cr b i e e' : Int) (seen : Int) (m fr fc size sent now sm : Int) (k : Hp → Prop) (eld idl : Bool) (win' pas seen' fr' re' cr' : Int) (emp' : V) (o : Outs) (lst ins snd : O)
theorem turn_nn_nt0 : WpC (Kx P) hk1 60 (.sts (scpOf (stAt 26)) loopBody loc0 (H5 c ns ⟨8400, fl, cr, .none, .none, .none, .int seen, m, fr, fc⟩ ⟨now, true, win', false, false, pas, .none, seen', fr', re', cr'⟩ [] r) (LK k)) =
    turnP c ns ⟨8400, fl, cr, .none, .none, .none, .int seen, m, fr, fc⟩ ⟨now, true, win', false, false, pas, .none, seen', fr', re', cr'⟩ [] (fun c s w o => okC ∧ k (H5 c ns s w o r)) := by kernel_rfl
theorem turn_nn_ntc : WpC (Kx P) hk1 60 (.sts (scpOf (stAt 26)) loopBody loc0 (H5 c ns ⟨8400, fl, cr, .none, .none, .none, .int seen, m, fr, fc⟩ ⟨now, true, win', false, false, pas, .none, seen', fr', re', cr'⟩ ((sent, size) :: o) r) (LK k)) =
    turnP c ns ⟨8400, fl, cr, .none, .none, .none, .int seen, m, fr, fc⟩ ⟨now, true, win', false, false, pas, .none, seen', fr', re', cr'⟩ ((sent, size) :: o) (fun c s w o => okC ∧ k (H5 c ns s w o r)) := by kernel_rfl
theorem turn_nn_nfc : WpC (Kx P) hk1 60 (.sts (scpOf (stAt 26)) loopBody loc0 (H5 c ns ⟨8400, fl, cr, .none, .none, .none, .int seen, m, fr, fc⟩ ⟨now, false, win', false, false, pas, .none, seen', fr', re', cr'⟩ ((sent, size) :: o) r) (LK k)) =
    turnP c ns ⟨8400, fl, cr, .none, .none, .none, .int seen, m, fr, fc⟩ ⟨now, false, win', false, false, pas, .none, seen', fr', re', cr'⟩ ((sent, size) :: o) (fun c s w o => okC ∧ k (H5 c ns s w o r)) := by kernel_rfl
theorem turn_nn_ef0 : WpC (Kx P) hk1 60 (.sts (scpOf (stAt 26)) loopBody loc0 (H5 c ns ⟨8400, fl, cr, .none, .none, .int e, .int seen, m, fr, fc⟩ ⟨now, false, win', false, false, pas, .int e', seen', fr', re', cr'⟩ [] r) (LK k)) =
    turnP c ns ⟨8400, fl, cr, .none, .none, .int e, .int seen, m, fr, fc⟩ ⟨now, false, win', false, false, pas, .int e', seen', fr', re', cr'⟩ [] (fun c s w o => okC ∧ k (H5 c ns s w o r)) := by kernel_rfl
theorem turn_nn_efc : WpC (Kx P) hk1 60 (.sts (scpOf (stAt 26)) loopBody loc0 (H5 c ns ⟨8400, fl, cr, .none, .none, .int e, .int seen, m, fr, fc⟩ ⟨now, false, win', false, false, pas, .int e', seen', fr', re', cr'⟩ ((sent, size) :: o) r) (LK k)) =
    turnP c ns ⟨8400, fl, cr, .none, .none, .int e, .int seen, m, fr, fc⟩ ⟨now, false, win', false, false, pas, .int e', seen', fr', re', cr'⟩ ((sent, size) :: o) (fun c s w o => okC ∧ k (H5 c ns s w o r)) := by kernel_rfl
theorem turn_bn_nt0 : WpC (Kx P) hk1 60 (.sts (scpOf (stAt 26)) loopBody loc0 (H5 c ns ⟨win, fl, cr, .int b, .none, .none, .int seen, m, fr, fc⟩ ⟨now, true, win', true, false, pas, .none, seen', fr', re', cr'⟩ [] r) (LK k)) =
    turnP c ns ⟨win, fl, cr, .int b, .none, .none, .int seen, m, fr, fc⟩ ⟨now, true, win', true, false, pas, .none, seen', fr', re', cr'⟩ [] (fun c s w o => okC ∧ k (H5 c ns s w o r)) := by kernel_rfl
theorem turn_bn_ntc : WpC (Kx P) hk1 60 (.sts (scpOf (stAt 26)) loopBody loc0 (H5 c ns ⟨win, fl, cr, .int b, .none, .none, .int seen, m, fr, fc⟩ ⟨now, true, win', true, false, pas, .none, seen', fr', re', cr'⟩ ((sent, size) :: o) r) (LK k)) =
    turnP c ns ⟨win, fl, cr, .int b, .none, .none, .int seen, m, fr, fc⟩ ⟨now, true, win', true, false, pas, .none, seen', fr', re', cr'⟩ ((sent, size) :: o) (fun c s w o => okC ∧ k (H5 c ns s w o r)) := by kernel_rfl
theorem turn_bn_nfc : WpC (Kx P) hk1 60 (.sts (scpOf (stAt 26)) loopBody loc0 (H5 c ns ⟨win, fl, cr, .int b, .none, .none, .int seen, m, fr, fc⟩ ⟨now, false, win', true, false, pas, .none, seen', fr', re', cr'⟩ ((sent, size) :: o) r) (LK k)) =
    turnP c ns ⟨win, fl, cr, .int b, .none, .none, .int seen, m, fr, fc⟩ ⟨now, false, win', true, false, pas, .none, seen', fr', re', cr'⟩ ((sent, size) :: o) (fun c s w o => okC ∧ k (H5 c ns s w o r)) := by kernel_rfl
theorem turn_bn_ef0 : WpC (Kx P) hk1 60 (.sts (scpOf (stAt 26)) loopBody loc0 (H5 c ns ⟨win, fl, cr, .int b, .none, .int e, .int seen, m, fr, fc⟩ ⟨now, false, win', true, false, pas, .int e', seen', fr', re', cr'⟩ [] r) (LK k)) =
    turnP c ns ⟨win, fl, cr, .int b, .none, .int e, .int seen, m, fr, fc⟩ ⟨now, false, win', true, false, pas, .int e', seen', fr', re', cr'⟩ [] (fun c s w o => okC ∧ k (H5 c ns s w o r)) := by kernel_rfl
theorem turn_bn_efc : WpC (Kx P) hk1 60 (.sts (scpOf (stAt 26)) loopBody loc0 (H5 c ns ⟨win, fl, cr, .int b, .none, .int e, .int seen, m, fr, fc⟩ ⟨now, false, win', true, false, pas, .int e', seen', fr', re', cr'⟩ ((sent, size) :: o) r) (LK k)) =
    turnP c ns ⟨win, fl, cr, .int b, .none, .int e, .int seen, m, fr, fc⟩ ⟨now, false, win', true, false, pas, .int e', seen', fr', re', cr'⟩ ((sent, size) :: o) (fun c s w o => okC ∧ k (H5 c ns s w o r)) := by kernel_rfl
theorem turn_bi_nt0 : WpC (Kx P) hk1 60 (.sts (scpOf (stAt 26)) loopBody loc0 (H5 c ns ⟨win, fl, cr, .int b, .int i, .none, .int seen, m, fr, fc⟩ ⟨now, true, win', true, true, pas, .none, seen', fr', re', cr'⟩ [] r) (LK k)) =
    turnP c ns ⟨win, fl, cr, .int b, .int i, .none, .int seen, m, fr, fc⟩ ⟨now, true, win', true, true, pas, .none, seen', fr', re', cr'⟩ [] (fun c s w o => okC ∧ k (H5 c ns s w o r)) := by kernel_rfl
theorem turn_bi_ntc : WpC (Kx P) hk1 60 (.sts (scpOf (stAt 26)) loopBody loc0 (H5 c ns ⟨win, fl, cr, .int b, .int i, .none, .int seen, m, fr, fc⟩ ⟨now, true, win', true, true, pas, .none, seen', fr', re', cr'⟩ ((sent, size) :: o) r) (LK k)) =
    turnP c ns ⟨win, fl, cr, .int b, .int i, .none, .int seen, m, fr, fc⟩ ⟨now, true, win', true, true, pas, .none, seen', fr', re', cr'⟩ ((sent, size) :: o) (fun c s w o => okC ∧ k (H5 c ns s w o r)) := by kernel_rfl
theorem turn_bi_nfc : WpC (Kx P) hk1 60 (.sts (scpOf (stAt 26)) loopBody loc0 (H5 c ns ⟨win, fl, cr, .int b, .int i, .none, .int seen, m, fr, fc⟩ ⟨now, false, win', true, true, pas, .none, seen', fr', re', cr'⟩ ((sent, size) :: o) r) (LK k)) =
    turnP c ns ⟨win, fl, cr, .int b, .int i, .none, .int seen, m, fr, fc⟩ ⟨now, false, win', true, true, pas, .none, seen', fr', re', cr'⟩ ((sent, size) :: o) (fun c s w o => okC ∧ k (H5 c ns s w o r)) := by kernel_rfl
theorem turn_bi_ef0 : WpC (Kx P) hk1 60 (.sts (scpOf (stAt 26)) loopBody loc0 (H5 c ns ⟨win, fl, cr, .int b, .int i, .int e, .int seen, m, fr, fc⟩ ⟨now, false, win', true, true, pas, .int e', seen', fr', re', cr'⟩ [] r) (LK k)) =
    turnP c ns ⟨win, fl, cr, .int b, .int i, .int e, .int seen, m, fr, fc⟩ ⟨now, false, win', true, true, pas, .int e', seen', fr', re', cr'⟩ [] (fun c s w o => okC ∧ k (H5 c ns s w o r)) := by kernel_rfl
theorem turn_bi_efc : WpC (Kx P) hk1 60 (.sts (scpOf (stAt 26)) loopBody loc0 (H5 c ns ⟨win, fl, cr, .int b, .int i, .int e, .int seen, m, fr, fc⟩ ⟨now, false, win', true, true, pas, .int e', seen', fr', re', cr'⟩ ((sent, size) :: o) r) (LK k)) =
    turnP c ns ⟨win, fl, cr, .int b, .int i, .int e, .int seen, m, fr, fc⟩ ⟨now, false, win', true, true, pas, .int e', seen', fr', re', cr'⟩ ((sent, size) :: o) (fun c s w o => okC ∧ k (H5 c ns s w o r)) := by kernel_rfl
end
end Mine
end
section
namespace Mine
open PySem PySem.W PySem.Spec PySem.Calls PyProof.Rows
abbrev mt : Int := 1957433
def sh (fr : Int) : Int := if 12000 ≤ fr then 17 else 9
def nF (win fr fc size : Int) : Int := fr + (fc + sh fr * 1200 * size).fdiv (17 * win)
def nR (win fr fc size : Int) : Int := (fc + sh fr * 1200 * size).fmod (17 * win)
def nW (win f cr e sm size : Int) : Int := if cw e mt < f then (if f > win then f else win) else win + (cr + (gl win (e + sm) mt - win) * size).fdiv win
def nC (win f cr e sm size : Int) : Int := if cw e mt < f then cr else (cr + (gl win (e + sm) mt - win) * size).fmod win

theorem small_in {a : Int} (h1 : -1000000000000000 ≤ a) (h2 : a ≤ 1000000000000000) : small a = true := by
  unfold small
  simp only [Bool.and_eq_true, decide_eq_true_eq]
  omega
theorem mulB_l {a b : Int} (h : small a = true) : mulB a b = true := by unfold mulB; rw [h]; rfl
theorem mulB_r {a b : Int} (h : small b = true) : mulB a b = true := by unfold mulB; rw [h]; exact Bool.or_true _
theorem divB_in {a : Int} (h1 : 0 < a) (h2 : a ≤ 1000000000000000) : divB a = true := by
  unfold divB
  simp only [Bool.and_eq_true, decide_eq_true_eq]
  omega
theorem cwOk_in {e m : Int} (h1 : -1000000000000000 ≤ e - m) (h2 : e - m ≤ 1000000000000000) : cwOk e m := ⟨mulB_r (small_in h1 h2), mulB_r (small_in h1 h2), mulB_r (small_in h1 h2)⟩
theorem cwQ_in {e m : Int} {X : Prop} (h1 : -1000000000000000 ≤ e - m) (h2 : e - m ≤ 1000000000000000) (x : X) : cwQ e m X := ⟨rfl, rfl, cwOk_in h1 h2, x⟩
theorem modEq (a q w : Int) (h : q = a.fdiv w) : a - q * w = a.fmod w := by
  subst h; rw [Int.fmod_def, Int.mul_comm]
-- growth of the sender
theorem gf_in {win fr fc size : Int} {k : Int → Int → Prop} (h1 : 0 < win) (h2 : win ≤ 1000000) (hk : k (nF win fr fc size) (nR win fr fc size)) : gfP win fr fc size k := by
  have one : ∀ s, sh fr = s → gf1 s win fr fc size k := by
    intro s hs
    unfold nF nR at hk
    rw [hs] at hk
    refine need_in (divB_in (by omega) (by omega)) (need_in (mulB_r (small_in (by omega) (by omega))) (need_in (mulB_r (small_in (by omega) (by omega))) ?_))
    rw [Int.mul_assoc _ 17 win, modEq _ _ _ rfl]
    exact hk
  refine br_in (fun h => one _ ?_) (fun h => one _ ?_)
  · exact if_pos (of_decide_eq_true h)
  · exact if_neg (of_decide_eq_false h)
theorem gc_in {win fr cr el sm size : Int} {k : Int → Int → Prop} (h1 : 0 < win) (h2 : win ≤ 1000000) (e1 : 0 ≤ el) (e2 : el ≤ 1000000000) (s1 : 0 ≤ sm) (s2 : sm ≤ 1000000000) (z1 : 0 ≤ size) (z2 : size ≤ 8400)
    (hk : k (nW win fr cr el sm size) (nC win fr cr el sm size)) : gcP win fr cr el sm mt size k := by
  unfold nW nC at hk
  refine cwQ_in (by simp only [mt]; omega) (by simp only [mt]; omega) (br_in (fun h => ?_) fun h => ?_)
  · have h := of_decide_eq_true h
    rw [if_pos h, if_pos h] at hk
    exact hk
  · have h := of_decide_eq_false h
    rw [if_neg h, if_neg h] at hk
    refine cwQ_in (by simp only [mt]; omega) (by simp only [mt]; omega) (need_in (mulB_r (small_in (by omega) (by omega))) (need_in (divB_in h1 (by omega)) (need_in (mulB_r (small_in (by omega) (by omega))) ?_)))
    rw [modEq _ _ _ rfl]
    exact hk
theorem gw_in {w : Wl} {size sm : Int} {k : Wl → Prop} (h1 : 0 < w.win) (h2 : w.win ≤ 1000000) (e1 : 0 ≤ w.pas) (e2 : w.pas ≤ 1000000000) (s1 : 0 ≤ sm) (s2 : sm ≤ 1000000000) (z1 : 0 ≤ size) (z2 : size ≤ 8400)
    (hk : k { w with win := nW w.win (nF w.win w.fr w.re size) w.cr w.pas sm size, cr := nC w.win (nF w.win w.fr w.re size) w.cr w.pas sm size, fr := nF w.win w.fr w.re size, re := nR w.win w.fr w.re size }) : gw1 w size sm k := by
  have one : ∀ s, sh w.fr = s → gw2 s w size sm k := by
    intro s hs
    unfold nF nR nW nC at hk
    rw [hs] at hk
    refine need_in (divB_in (by omega) (by omega)) (need_in (divB_in (by omega) (by omega)) (cwQ_in (by omega) (by omega) (br_in (fun h => ?_) fun h => ?_)))
    · have h := of_decide_eq_true h
      rw [if_pos h, if_pos h] at hk
      exact hk
    · have h := of_decide_eq_false h
      rw [if_neg h, if_neg h] at hk
      exact cwQ_in (by omega) (by omega) (need_in (mulB_r (small_in (by omega) (by omega))) (need_in (divB_in h1 (by omega)) (need_in (divB_in h1 (by omega)) hk)))
  refine br_in (fun h => one _ ?_) (fun h => one _ ?_)
  · exact if_pos (of_decide_eq_true h)
  · exact if_neg (of_decide_eq_false h)
-- bounds
theorem fdiv_bd {a b c : Int} (hb : 0 < b) (h0 : 0 ≤ a) (h : a < b * (c + 1)) : 0 ≤ a.fdiv b ∧ a.fdiv b ≤ c := by
  have e := Int.fmod_def a b
  have m0 := Int.fmod_nonneg_of_pos a hb
  have m1 := Int.fmod_lt_of_pos a hb
  have q0 : 0 ≤ a.fdiv b := Int.fdiv_nonneg h0 (Int.le_of_lt hb)
  refine ⟨q0, ?_⟩
  have h1 : b * a.fdiv b < b * (c + 1) := by omega
  have := Int.lt_of_mul_lt_mul_left h1 (Int.le_of_lt hb)
  omega
theorem sh_bd (fr : Int) : 0 ≤ sh fr ∧ sh fr ≤ 17 := by unfold sh; split <;> omega
theorem nF_bd {win fr fc size : Int} (h1 : 8400 ≤ win) (f0 : 0 ≤ fc) (f1 : fc < 17 * win) (z1 : 0 ≤ size) (z2 : size ≤ 8400) : fr ≤ nF win fr fc size ∧ nF win fr fc size ≤ fr + 1200 ∧ 0 ≤ nR win fr fc size ∧ nR win fr fc size < 17 * win := by
  have s := sh_bd fr
  have p1 : 0 ≤ sh fr * 1200 * size := Int.mul_nonneg (by omega) z1
  have p2 : sh fr * 1200 * size ≤ 17 * 1200 * size := Int.mul_le_mul_of_nonneg_right (by omega) z1
  have q := fdiv_bd (a := fc + sh fr * 1200 * size) (b := 17 * win) (c := 1200) (by omega) (by omega) (by omega)
  refine ⟨?_, ?_, Int.fmod_nonneg_of_pos _ (by omega), Int.fmod_lt_of_pos _ (by omega)⟩ <;> (unfold nF; omega)
theorem half_bd {b : Int} (h : 0 ≤ b) : 0 ≤ b.fdiv 2 ∧ 2 * b.fdiv 2 ≤ b := by
  have e := Int.fmod_def b 2
  have m0 := Int.fmod_nonneg_of_pos b (b := 2) (by omega)
  have m1 := Int.fmod_lt_of_pos b (b := 2) (by omega)
  omega
theorem gl_bd {b e m : Int} (h : 0 ≤ b) : b ≤ gl b e m ∧ 2 * (gl b e m - b) ≤ b := by
  have := half_bd h
  unfold gl
  split <;> split <;> omega
theorem nW_bd {win f cr e sm size : Int} (h1 : 8400 ≤ win) (c0 : 0 ≤ cr) (c1 : cr < win) (z1 : 0 ≤ size) (z2 : size ≤ 8400) :
    win ≤ nW win f cr e sm size ∧ (nW win f cr e sm size ≤ win + 4200 ∨ nW win f cr e sm size ≤ f) ∧ 0 ≤ nC win f cr e sm size ∧ nC win f cr e sm size < win := by
  unfold nW nC
  by_cases h : cw e mt < f
  · rw [if_pos h, if_pos h]
    split <;> omega
  · rw [if_neg h, if_neg h]
    have g := gl_bd (b := win) (e := e + sm) (m := mt) (by omega)
    generalize gl win (e + sm) mt = G at g ⊢
    have p1 : 0 ≤ (G - win) * size := Int.mul_nonneg (by omega) z1
    have p2 : (G - win) * size ≤ (G - win) * 8400 := Int.mul_le_mul_of_nonneg_left z2 (by omega)
    have q := fdiv_bd (a := cr + (G - win) * size) (b := win) (c := 4200) (by omega) (by omega) (by omega)
    exact ⟨by omega, by omega, Int.fmod_nonneg_of_pos _ (by omega), Int.fmod_lt_of_pos _ (by omega)⟩
end Mine
end
section
namespace Mine
open PySem PySem.W PySem.Spec PySem.Calls PyProof.Rows
def sm2 : Outs → Int
  | [] => 0
  | p :: o => p.2 + sm2 o
theorem sum_sm2 (o : Outs) : (o.map (·.2)).sum = sm2 o := by
  induction o with
  | nil => rfl
  | cons p o ih => rw [List.map_cons, List.sum_cons, ih]; rfl
def el (b : Bool) : Int := if b then 1200 else 0
theorem sm2_snoc (o : Outs) (q : Int × Int) : sm2 (o ++ [q]) = sm2 o + q.2 := by
  induction o with
  | nil => simp [sm2]
  | cons p o ih => simp only [List.cons_append, sm2, ih]; omega
theorem snoc_of {o : Outs} (h : o ≠ []) : ∃ o' q, o = o' ++ [q] := ⟨o.dropLast, o.getLast h, (List.dropLast_concat_getLast h).symm⟩
theorem sm2_pos {o : Outs} (h : ∀ p ∈ o, 0 < p.2) : 0 ≤ sm2 o ∧ (sm2 o = 0 → o = []) := by
  induction o with
  | nil => exact ⟨Int.le_refl _, fun _ => rfl⟩
  | cons p o ih =>
    have a := h p (.head _)
    have b := (ih fun q hq => h q (.tail _ hq)).1
    refine ⟨by simp only [sm2]; omega, fun e => ?_⟩
    simp only [sm2] at e
    omega
structure Cm (t T c : Int) (s : Sn) (w : Wl) (o : Outs) (ts : Int) : Prop where
  c0 : 0 ≤ c
  t0 : 0 ≤ t
  t1 : t ≤ 14
  T1 : T ≤ 14
  now : 2 ≤ w.now
  win : s.win = w.win
  fl : s.fl = sm2 o + el w.eld
  lo : 8400 ≤ w.win
  hi : w.win ≤ 20000 + 5000 * t
  len : (o.length : Int) ≤ t
  out : ∀ p ∈ o, 2 ≤ p.1 ∧ p.1 ≤ w.now ∧ 0 < p.2 ∧ p.2 ≤ 8400
  cr : s.cr = w.cr
  cr0 : 0 ≤ w.cr
  cr1 : w.cr < w.win
  seen : s.seen = .int ts
  ts1 : ts ≤ w.now
  p0 : 0 ≤ w.pas
  p1 : w.pas ≤ 9900000 * T
  s0 : 0 ≤ w.seen
  s1 : w.seen ≤ 9900000 * T
def hd (now : Int) (o : Outs) : Int := match o with
  | [] => 0
  | p :: _ => now - p.1
abbrev EmX := Option (Int × Int)
inductive Em (T : Int) (s : Sn) (w : Wl) (o : Outs) : EmX → Prop
  | non : s.emp = .none → w.emp = .none → (o ≠ [] ∨ w.eld = true) → Em T s w o none
  | som (E e : Int) : s.emp = .int E → w.emp = .int e → w.eld = false → (∀ p ∈ o, E ≤ p.1) → E ≤ w.now → 0 ≤ e → e ≤ 9900000 * T → Em T s w o (some (E, e))
structure Gr (t : Int) (s : Sn) (w : Wl) : Prop where
  m : s.meets = 1957433
  fr : s.fr = w.fr
  fc : s.fc = w.re
  r0 : 0 ≤ w.re
  r1 : w.re < 17 * w.win
  f1 : w.fr ≤ 20000 + 5000 * t
inductive Ph (t ts : Int) (s : Sn) (w : Wl) (o : Outs) : EmX → Prop
  | nb (x : EmX) : s.beg = .none → s.idl = .none → w.beg = false → w.idl = false → w.win = 8400 → w.re = 0 → Ph t ts s w o x
  | idl (x : EmX) (b i : Int) : s.beg = .int b → s.idl = .int i → w.beg = true → w.idl = true → Gr t s w → w.pas = i - b → w.seen = w.pas → (∀ E e, x = some (E, e) → e = w.pas) → Ph t ts s w o x
  | onN (b : Int) : s.beg = .int b → s.idl = .none → w.beg = true → w.idl = false → Gr t s w → w.pas = w.now - b → w.seen = ts - b → Ph t ts s w o none
  | onS (b E e : Int) : s.beg = .int b → s.idl = .none → w.beg = true → w.idl = false → Gr t s w → e = E - b → w.pas = e + hd w.now o → Ph t ts s w o (some (E, e))
structure Inv (t T c : Int) (s : Sn) (w : Wl) (o : Outs) (ts : Int) (x : EmX) : Prop where
  cm : Cm t T c s w o ts
  em : Em T s w o x
  ph : Ph t ts s w o x
abbrev AnyK (t T : Int) (k : KT) : Prop := ∀ c s w o ts x, Inv t T c s w o ts x → k c s w o

theorem Gr.up {t t' : Int} {s : Sn} {w : Wl} (g : Gr t s w) (h : t ≤ t') : Gr t' s w := ⟨g.m, g.fr, g.fc, g.r0, g.r1, by have := g.f1; omega⟩
theorem Gr.to {t t' : Int} {s s' : Sn} {w w' : Wl} (g : Gr t s w) (h : t ≤ t') (a : s'.meets = s.meets) (b : s'.fr = s.fr) (c : s'.fc = s.fc) (d : w'.fr = w.fr) (e : w'.re = w.re) (f : w'.win = w.win) : Gr t' s' w' :=
  ⟨a.trans g.m, by rw [b, d, g.fr], by rw [c, e, g.fc], by rw [e]; exact g.r0, by rw [e, f]; exact g.r1, by have := g.f1; rw [d]; omega⟩

-- the time goes on
theorem time_in {t c : Int} {s : Sn} {w : Wl} {o : Outs} {ts : Int} {x : EmX} (I : Inv t t c s w o ts x) (ht : t < 14) {step : Int} (h0 : 0 ≤ step) (h1 : step ≤ 9900000) {X : Wl → Prop}
    (hX : ∀ w', Inv t (t + 1) c s w' o ts x → X w') :
    orB (!o.isEmpty) w.eld (br (!w.idl) (X { w with now := w.now + step, pas := w.pas + step }) (X { w with now := w.now + step })) (X { w with now := w.now + step }) := by
  obtain ⟨m, em, p⟩ := I
  have em' : ∀ q, Em (t + 1) s { w with now := w.now + step, pas := q } o x := fun q => by
    cases em with
    | non a b c => exact .non a b c
    | som E e a b c d f g h => exact .som E e a b c d (by dsimp only; omega) g (by omega)
  have mk : ∀ q, 0 ≤ q → q ≤ w.pas + step → Ph t ts s { w with now := w.now + step, pas := q } o x → X { w with now := w.now + step, pas := q } := fun q q0 q1 ph => by
    refine hX _ ⟨⟨m.c0, m.t0, m.t1, by omega, ?_, m.win, m.fl, m.lo, m.hi, m.len, fun p hp => ?_, m.cr, m.cr0, m.cr1, m.seen, ?_, q0, ?_, m.s0, ?_⟩, em' q, ph⟩
    · have := m.now; dsimp only; omega
    · have := m.out p hp; dsimp only; omega
    · have := m.ts1; dsimp only; omega
    · have := m.p1; dsimp only; omega
    · have := m.s1; dsimp only; omega
  have go : (o ≠ [] ∨ w.eld = true) → br (!w.idl) (X { w with now := w.now + step, pas := w.pas + step }) (X { w with now := w.now + step }) := fun ho => by
    refine br_in (fun hi => ?_) (fun hi => ?_)
    · have hi : w.idl = false := by simpa using hi
      have p0 := m.p0
      refine mk _ (by omega) (by omega) ?_
      cases p with
      | nb x a b c d e f => exact .nb _ a b c d e f
      | idl x b i a c d e => rw [hi] at e; cases e
      | onN b a c d e g q r => exact .onN b a c d e (g.to (Int.le_refl _) rfl rfl rfl rfl rfl rfl) (by dsimp only; omega) r
      | onS b E e' a c d e'' g q r =>
        refine .onS b E e' a c d e'' (g.to (Int.le_refl _) rfl rfl rfl rfl rfl rfl) q ?_
        cases em with
        | som _ _ _ _ hel =>
          cases o with
          | nil => rcases ho with h | h
                   · exact absurd rfl h
                   · rw [hel] at h; cases h
          | cons p o => dsimp only [hd] at r ⊢; omega
    · have hi : w.idl = true := by simpa using hi
      refine mk _ m.p0 (by omega) ?_
      cases p with
      | nb x a b c d e f => rw [hi] at d; cases d
      | idl x b i a c d e g q r z => exact .idl x b i a c d e (g.to (Int.le_refl _) rfl rfl rfl rfl rfl rfl) q r z
      | onN b a c d e => rw [hi] at e; cases e
      | onS b E e' a c d e => rw [hi] at e; cases e
  refine br_in (fun h => go (.inl fun e => by rw [e] at h; cases h)) fun h => br_in (fun h2 => go (.inr h2)) fun h2 => ?_
  have ho : o = [] := by cases o with
    | nil => rfl
    | cons _ _ => cases h
  refine mk _ m.p0 (by omega) ?_
  cases p with
  | nb x a b c d e f => exact .nb _ a b c d e f
  | idl x b i a c d e g q r z => exact .idl x b i a c d e (g.to (Int.le_refl _) rfl rfl rfl rfl rfl rfl) q r z
  | onN b a c d e' g q r =>
    cases em with
    | non _ _ hh => rcases hh with hh | hh
                    · exact absurd ho hh
                    · rw [h2] at hh; cases hh
  | onS b E e' a c d e'' g q r =>
    subst ho
    exact .onS b E e' a c d e'' (g.to (Int.le_refl _) rfl rfl rfl rfl rfl rfl) q r
end Mine
end
section
namespace Mine
open PySem PySem.W PySem.Spec PySem.Calls PyProof.Rows
theorem el_t : el true = 1200 := rfl
theorem el_f : el false = 0 := rfl
theorem isE {o : Outs} (h : o.isEmpty = true) : o = [] := by cases o with
  | nil => rfl
  | cons _ _ => cases h
theorem notE {o : Outs} (h : o.isEmpty = false) : o ≠ [] := fun e => by rw [e] at h; cases h
theorem Cm.pos {t T c : Int} {s : Sn} {w : Wl} {o : Outs} {ts : Int} (m : Cm t T c s w o ts) : 0 ≤ sm2 o ∧ (sm2 o = 0 → o = []) := sm2_pos fun p hp => (m.out p hp).2.2.1
theorem check_in {t T c : Int} {s : Sn} {w : Wl} {o : Outs} {ts : Int} {x : EmX} (I : Inv t T c s w o ts x) {k : KT} (hk : k c s w o) : checkP c s w o k := by
  have m := I.cm
  have h1 := m.len
  have h2 := m.t1
  have one : ∀ z, el w.eld = z → br (!(s.win == w.win && s.fl == (o.map (·.2)).sum + z)) False (k c s w o) := fun z hz => by
    have e1 : (s.win == w.win) = true := by rw [m.win]; exact beq_self_eq_true _
    have e2 : (s.fl == (o.map (·.2)).sum + z) = true := by rw [m.fl, sum_sm2, hz]; exact beq_self_eq_true _
    rw [e1, e2]
    exact hk
  refine need_in (decide_eq_true (by omega)) (br_in (fun h => one _ ?_) fun h => one _ ?_)
  · rw [h]; rfl
  · rw [h]; rfl
theorem Cm.up {t t' T c c' : Int} {s s' : Sn} {w w' : Wl} {o o' : Outs} {ts ts' : Int} (m : Cm t T c s w o ts) (ht : t ≤ t') (ht' : t' ≤ 14) (hc : c ≤ c') (sw : s'.win = s.win) (sc : s'.cr = s.cr) (ww : w'.win = w.win) (wc : w'.cr = w.cr) (wn : w'.now = w.now)
    (fl : s'.fl = sm2 o' + el w'.eld) (len : (o'.length : Int) ≤ t') (out : ∀ p ∈ o', 2 ≤ p.1 ∧ p.1 ≤ w.now ∧ 0 < p.2 ∧ p.2 ≤ 8400) (seen : s'.seen = .int ts') (ts1 : ts' ≤ w.now)
    (p : (0 ≤ w'.pas ∧ w'.pas ≤ 9900000 * T)) (q : 0 ≤ w'.seen ∧ w'.seen ≤ 9900000 * T) : Cm t' T c' s' w' o' ts' :=
  ⟨by have := m.c0; omega, by have := m.t0; omega, ht', m.T1, by rw [wn]; exact m.now, by rw [sw, ww, m.win], fl, by rw [ww]; exact m.lo, by rw [ww]; have := m.hi; omega, len, by rw [wn]; exact out, by rw [sc, wc, m.cr], by rw [wc]; exact m.cr0,
    by rw [wc, ww]; exact m.cr1, seen, by rw [wn]; exact ts1, p.1, p.2, q.1, q.2⟩
theorem Cm.ps {t T c : Int} {s : Sn} {w : Wl} {o : Outs} {ts : Int} (m : Cm t T c s w o ts) : 0 ≤ w.pas ∧ w.pas ≤ 9900000 * T := ⟨m.p0, m.p1⟩
theorem Cm.ss {t T c : Int} {s : Sn} {w : Wl} {o : Outs} {ts : Int} (m : Cm t T c s w o ts) : 0 ≤ w.seen ∧ w.seen ≤ 9900000 * T := ⟨m.s0, m.s1⟩

theorem body2_in {t T c : Int} {s : Sn} {w : Wl} {o : Outs} {ts : Int} {x : EmX} (I : Inv t T c s w o ts x) (ht : t < 14) {k : KT} (hk : AnyK (t + 1) T k) : body2 c s w o k := by
  obtain ⟨m, em, p⟩ := I
  have len := m.len
  refine br_in (fun he => ?_) fun he => ?_
  · have hfl : s.fl = sm2 o + 1200 := by rw [m.fl, he]; rfl
    cases em with
    | som _ _ _ _ h => rw [he] at h; cases h
    | non e1 e2 _ =>
    refine br_in (fun hz => ?_) fun hz => ?_
    · have hz : s.fl - 1200 = 0 := by simpa using hz
      have ho : o = [] := m.pos.2 (by omega)
      subst ho
      refine hk _ _ _ _ w.now (some (w.now, w.pas)) ⟨m.up (by omega) (by omega) (Int.le_refl _) rfl rfl rfl rfl rfl ?_ (by simp; have := m.t0; omega) (fun p hp => nomatch hp) rfl (Int.le_refl _) m.ps m.ps, .som _ _ rfl rfl rfl (fun p hp => nomatch hp) (Int.le_refl _) m.p0 m.p1, ?_⟩
      · dsimp only; rw [el_f]; omega
      · cases p with
        | nb x a b c d e f => exact .nb _ a b c d e f
        | idl x b i a c d e g q r z => exact .idl _ b i a c d e (g.to (by omega) rfl rfl rfl rfl rfl rfl) q rfl (fun E e h => by cases h; rfl)
        | onN b a c d e g q r => exact .onS b _ _ a c d e (g.to (by omega) rfl rfl rfl rfl rfl rfl) q (by dsimp only [hd]; omega)
    · have hz : s.fl - 1200 ≠ 0 := by simpa using hz
      have ho : o ≠ [] := fun e => by subst e; apply hz; rw [hfl]; rfl
      refine br_in (fun h => absurd (isE h) ho) fun _ => ?_
      refine hk _ _ _ _ w.now none ⟨m.up (by omega) (by omega) (Int.le_refl _) rfl rfl rfl rfl rfl ?_ (by omega) m.out rfl (Int.le_refl _) m.ps m.ps, .non e1 e2 (.inl ho), ?_⟩
      · dsimp only; rw [el_f]; omega
      · cases p with
        | nb x a b c d e f => exact .nb _ a b c d e f
        | idl x b i a c d e g q r z => exact .idl _ b i a c d e (g.to (by omega) rfl rfl rfl rfl rfl rfl) q rfl (fun E e h => by cases h)
        | onN b a c d e g q r => exact .onN b a c d e (g.to (by omega) rfl rfl rfl rfl rfl rfl) q q
  · have hfl : s.fl = sm2 o := by rw [m.fl, he, el_f]; omega
    refine hk _ _ _ _ w.now x ⟨m.up (by omega) (by omega) (Int.le_refl _) rfl rfl rfl rfl rfl ?_ (by omega) m.out rfl (Int.le_refl _) m.ps m.ps, ?_, ?_⟩
    · dsimp only; rw [el_f]; omega
    · cases em with
      | non a b h => exact .non a b (.inl (h.resolve_right (by rw [he]; exact Bool.noConfusion)))
      | som E e a b c d f g h => exact .som E e a b rfl d f g h
    · cases p with
      | nb x a b c d e f => exact .nb _ a b c d e f
      | idl x b i a c d e g q r z => exact .idl _ b i a c d e (g.to (by omega) rfl rfl rfl rfl rfl rfl) q rfl z
      | onN b a c d e g q r => exact .onN b a c d e (g.to (by omega) rfl rfl rfl rfl rfl rfl) q q
      | onS b E e' a c d e'' g q r => exact .onS b E e' a c d e'' (g.to (by omega) rfl rfl rfl rfl rfl rfl) q r
theorem body3_in {t T c : Int} {ns : List Int} {s : Sn} {w : Wl} {o : Outs} {ts : Int} {x : EmX} (I : Inv t T c s w o ts x) (ht : t < 14) (hn : ns.length ≤ 56) {k : KT} (hk : AnyK (t + 1) T k) : body3 c ns s w o k := by
  obtain ⟨m, em, p⟩ := I
  have len := m.len
  refine ⟨m.c0, hn, by decide, by decide, fun j j0 j1 => need_in ?_ (need_in (decide_eq_true (by omega)) ?_)⟩
  · simp only [Bool.and_eq_true, decide_eq_true_eq, List.length_cons, List.length_nil]; omega
  have hz : ∃ z, [1200, 8400, 300].getD j.toNat 0 = z ∧ (0 : Int) < z ∧ z ≤ 8400 := by
    have : j = 0 ∨ j = 1 ∨ j = 2 := by omega
    rcases this with rfl | rfl | rfl <;> exact ⟨_, rfl, by decide, by decide⟩
  obtain ⟨z, hz, z0, z1⟩ := hz
  rw [hz]
  refine hk _ _ _ _ ts x ⟨m.up (by omega) (by omega) (by omega) rfl rfl rfl rfl rfl ?_ ?_ (fun p hp => ?_) m.seen m.ts1 m.ps m.ss, ?_, ?_⟩
  · dsimp only; rw [sm2_snoc, m.fl]; dsimp only; omega
  · simp; omega
  · rcases List.mem_append.mp hp with h | h
    · exact m.out p h
    · rw [List.mem_singleton.mp h]; have := m.now; dsimp only; omega
  · cases em with
    | non a b h => exact .non a b (.inl (by simp))
    | som E e a b c d f g h => exact .som E e a b c (fun p hp => by
        rcases List.mem_append.mp hp with h | h
        · exact d p h
        · rw [List.mem_singleton.mp h]; exact f) f g h
  · cases p with
    | nb x a b c d e f => exact .nb _ a b c d e f
    | idl x b i a c d e g q r z => exact .idl _ b i a c d e (g.to (by omega) rfl rfl rfl rfl rfl rfl) q r z
    | onN b a c d e g q r => exact .onN b a c d e (g.to (by omega) rfl rfl rfl rfl rfl rfl) q r
    | onS b E e' a c d e'' g q r =>
      refine .onS b E e' a c d e'' (g.to (by omega) rfl rfl rfl rfl rfl rfl) q ?_
      cases o with
      | nil => dsimp only [hd, List.nil_append] at r ⊢; omega
      | cons p o => exact r
end Mine
end
section
namespace Mine
open PySem PySem.W PySem.Spec PySem.Calls PyProof.Rows
section
variable {t T c : Int} {ns : List Int} {s : Sn} {w : Wl} {o o' : Outs} {ts : Int} {x : EmX} {k : KT}
theorem disc_n {size : Int} {k : Sn → Prop} (hs : s.seen = .int ts) (he : s.emp = .none) (h0 : 0 < size) (h : noteEmpty { s with fl := s.fl - size } ts k) : discP s size k := by
  obtain ⟨win, fl, cr, beg, idl, emp, seen, me, fr, fc⟩ := s
  cases hs; cases he
  exact br_in (fun _ => h) (fun q => absurd h0 (of_decide_eq_false q))
theorem disc_s {size E : Int} {k : Sn → Prop} (hs : s.seen = .int ts) (he : s.emp = .int E) (h0 : 0 < size) (h : k { s with fl := s.fl - size }) : discP s size k := by
  obtain ⟨win, fl, cr, beg, idl, emp, seen, me, fr, fc⟩ := s
  cases hs; cases he
  exact br_in (fun _ => h) (fun q => absurd h0 (of_decide_eq_false q))
theorem b1_n (he : w.emp = .none) (h1 : o = [] → k c s { w with eld := false, emp := .int w.seen, pas := w.seen } o) (h2 : o ≠ [] → k c s { w with eld := false } o) : body1b c s w o k := by
  obtain ⟨now, eld, win, beg, idl, pas, emp, seen, fr, re, cr⟩ := w
  cases he
  exact br_in (fun h => h1 (isE h)) (fun h => h2 (notE h))
theorem b1_s {e : Int} (he : w.emp = .int e) (h1 : o = [] → k c s { w with eld := false, pas := e } o) (h2 : o ≠ [] → k c s { w with eld := false } o) : body1b c s w o k := by
  obtain ⟨now, eld, win, beg, idl, pas, emp, seen, fr, re, cr⟩ := w
  cases he
  exact br_in (fun h => h1 (isE h)) (fun h => h2 (notE h))
theorem gone_in (I : Inv t T c s w o ts x) (ht : t < 14) {z : Int} (z0 : 0 < z) (hfl : s.fl - z = sm2 o') (sub : ∀ p ∈ o', p ∈ o) (len : o'.length ≤ o.length) (hh : o' ≠ [] → hd w.now o' = hd w.now o) (hk : AnyK (t + 1) T k) :
    discP s z fun s => body1b c s w o' k := by
  obtain ⟨m, em, p⟩ := I
  have len2 := m.len
  have pos := sm2_pos (o := o') fun p hp => (m.out p (sub p hp)).2.2.1
  have out : ∀ p ∈ o', 2 ≤ p.1 ∧ p.1 ≤ w.now ∧ 0 < p.2 ∧ p.2 ≤ 8400 := fun p hp => m.out p (sub p hp)
  cases em with
  | non e1 e2 _ =>
    refine disc_n m.seen e1 z0 (br_in (fun hz => ?_) (fun hz => ?_))
    · have hz : s.fl - z = 0 := by simpa using hz
      have ho : o' = [] := pos.2 (by omega)
      refine b1_n e2 (fun _ => ?_) (fun h => absurd ho h)
      subst ho
      refine hk _ _ _ _ ts (some (ts, w.seen)) ⟨m.up (by omega) (by omega) (Int.le_refl _) rfl rfl rfl rfl rfl ?_ (by simp; have := m.t0; omega) out m.seen m.ts1 m.ss m.ss, .som _ _ rfl rfl rfl (fun p hp => nomatch hp) m.ts1 m.s0 m.s1, ?_⟩
      · dsimp only; rw [el_f, hfl]; omega
      · cases p with
        | nb x a b c d e f => exact .nb _ a b c d e f
        | idl x b i a c d e g q r z => exact .idl _ b i a c d e (g.to (by omega) rfl rfl rfl rfl rfl rfl) (by dsimp only; omega) rfl (fun E e h => by cases h; rfl)
        | onN b a c d e g q r => exact .onS b _ _ a c d e (g.to (by omega) rfl rfl rfl rfl rfl rfl) r (by dsimp only [hd]; omega)
    · have hz : s.fl - z ≠ 0 := by simpa using hz
      have ho : o' ≠ [] := fun e => by subst e; apply hz; rw [hfl]; rfl
      refine b1_n e2 (fun h => absurd h ho) (fun _ => ?_)
      refine hk _ _ _ _ ts none ⟨m.up (by omega) (by omega) (Int.le_refl _) rfl rfl rfl rfl rfl ?_ (by omega) out m.seen m.ts1 m.ps m.ss, .non e1 e2 (.inl ho), ?_⟩
      · dsimp only; rw [el_f, hfl]; omega
      · cases p with
        | nb x a b c d e f => exact .nb _ a b c d e f
        | idl x b i a c d e g q r z => exact .idl _ b i a c d e (g.to (by omega) rfl rfl rfl rfl rfl rfl) q r (fun E e h => by cases h)
        | onN b a c d e g q r => exact .onN b a c d e (g.to (by omega) rfl rfl rfl rfl rfl rfl) q r
  | som E e e1 e2 e3 e4 e5 e6 e7 =>
    refine disc_s m.seen e1 z0 (b1_s e2 (fun ho => ?_) (fun ho => ?_))
    · subst ho
      refine hk _ _ _ _ ts (some (E, e)) ⟨m.up (by omega) (by omega) (Int.le_refl _) rfl rfl rfl rfl rfl ?_ (by simp; have := m.t0; omega) out m.seen m.ts1 ⟨e6, e7⟩ m.ss, .som E e e1 e2 rfl (fun p hp => nomatch hp) e5 e6 e7, ?_⟩
      · dsimp only; rw [el_f, hfl]; omega
      · cases p with
        | nb x a b c d e f => exact .nb _ a b c d e f
        | idl x b i a c d e g q r z =>
          have z := z E _ rfl
          exact .idl _ b i a c d e (g.to (by omega) rfl rfl rfl rfl rfl rfl) (by dsimp only; omega) (by dsimp only; omega) (fun E e h => by cases h; rfl)
        | onS b _ _ a c d e g q r => exact .onS b _ _ a c d e (g.to (by omega) rfl rfl rfl rfl rfl rfl) q (by dsimp only [hd]; omega)
    · refine hk _ _ _ _ ts (some (E, e)) ⟨m.up (by omega) (by omega) (Int.le_refl _) rfl rfl rfl rfl rfl ?_ (by omega) out m.seen m.ts1 m.ps m.ss, .som E e e1 e2 rfl (fun p hp => e4 p (sub p hp)) e5 e6 e7, ?_⟩
      · dsimp only; rw [el_f, hfl]; omega
      · cases p with
        | nb x a b c d e f => exact .nb _ a b c d e f
        | idl x b i a c d e g q r z => exact .idl _ b i a c d e (g.to (by omega) rfl rfl rfl rfl rfl rfl) q r z
        | onS b _ _ a c d e g q r => exact .onS b _ _ a c d e (g.to (by omega) rfl rfl rfl rfl rfl rfl) q (by dsimp only; rw [hh ho]; exact r)
theorem body1_in (I : Inv t T c s w o ts x) (ht : t < 14) (h : w.eld = true ∨ o ≠ []) (hk : AnyK (t + 1) T k) : body1 c s w o k := by
  have m := I.cm
  have len := m.len
  refine br_in (fun he => ?_) (fun he => ?_)
  · refine gone_in I ht (by decide) ?_ (fun _ h => h) (Nat.le_refl _) (fun _ => rfl) hk
    rw [m.fl, he, el_t]; omega
  · have ho : o ≠ [] := h.resolve_left (by rw [he]; exact Bool.noConfusion)
    obtain ⟨o', q, rfl⟩ := snoc_of ho
    refine need_in ?_ ?_
    · simp only [Bool.and_eq_true, decide_eq_true_eq]
      refine ⟨by simp, by omega⟩
    · have e1 : (o' ++ [q]).getLastD (0, 0) = q := by simp
      have e2 : (o' ++ [q]).dropLast = o' := by simp
      rw [e1, e2]
      refine gone_in I ht (m.out q (by simp)).2.2.1 ?_ (fun p hp => List.mem_append_left _ hp) (by simp) (fun h => ?_) hk
      · rw [m.fl, he, el_f, sm2_snoc]; omega
      · cases o' with
        | nil => exact absurd rfl h
        | cons _ _ => rfl
end
end Mine
end
section
namespace Mine
open PySem PySem.W PySem.Spec PySem.Calls PyProof.Rows
inductive P2 (t : Int) (s : Sn) (w : Wl) : Prop
  | nb : s.beg = .none → s.idl = .none → w.beg = false → w.idl = false → w.win = 8400 → w.re = 0 → P2 t s w
  | idl (b i : Int) : s.beg = .int b → s.idl = .int i → w.beg = true → w.idl = true → Gr t s w → w.pas = i - b → P2 t s w
  | on (b : Int) : s.beg = .int b → s.idl = .none → w.beg = true → w.idl = false → Gr t s w → w.pas = w.now - b → P2 t s w
def NE2 (now : Int) (eld : Bool) (o : Outs) (e : V) : Prop := (e = .none ∧ (o ≠ [] ∨ eld = true)) ∨ (e = .int now ∧ o = [] ∧ eld = false)
section
variable {t T c : Int} {ns : List Int} {s : Sn} {w : Wl} {o : Outs} {ts : Int} {x : EmX} {k : KT}
theorem endP_in (m : Cm t T c s w o w.now) (hs : NE2 w.now w.eld o s.emp) (p : P2 t s w) (hk : AnyK t T k) : ackedP.endP k c s w o := by
  have cm : ∀ e, Cm t T c s { w with seen := w.pas, emp := e } o w.now := fun e => ⟨m.c0, m.t0, m.t1, m.T1, m.now, m.win, m.fl, m.lo, m.hi, m.len, m.out, m.cr, m.cr0, m.cr1, m.seen, m.ts1, m.p0, m.p1, m.p0, m.p1⟩
  have gr : ∀ e, Gr t s w → Gr t s { w with seen := w.pas, emp := e } := fun e g => g.to (Int.le_refl _) rfl rfl rfl rfl rfl rfl
  rcases hs with ⟨h1, h2⟩ | ⟨h1, h2, h3⟩
  · have fin : k c s { w with seen := w.pas, emp := .none } o := by
      refine hk _ _ _ _ w.now none ⟨cm _, .non h1 rfl h2, ?_⟩
      cases p with
      | nb a b c d e f => exact .nb _ a b c d e f
      | idl b i a c d e g q => exact .idl _ b i a c d e (gr _ g) q rfl (fun E e h => by cases h)
      | on b a c d e g q => exact .onN b a c d e (gr _ g) q q
    refine br_in (fun _ => fin) (fun h => br_in (fun _ => fin) (fun h3 => ?_))
    rcases h2 with h2 | h2
    · have : o.isEmpty = true := by simpa using h
      exact absurd (isE this) h2
    · rw [h3] at h2; cases h2
  · refine br_in (fun h => ?_) (fun _ => br_in (fun h => ?_) (fun _ => ?_))
    · rw [h2] at h; cases h
    · rw [h3] at h; cases h
    · refine hk _ _ _ _ w.now (some (w.now, w.pas)) ⟨cm _, .som _ _ h1 rfl h3 (fun p hp => by rw [h2] at hp; cases hp) (Int.le_refl _) m.p0 m.p1, ?_⟩
      cases p with
      | nb a b c d e f => exact .nb _ a b c d e f
      | idl b i a c d e g q => exact .idl _ b i a c d e (gr _ g) q rfl (fun E e h => by cases h; rfl)
      | on b a c d e g q => exact .onS b _ _ a c d e (gr _ g) q (by subst h2; dsimp only [hd]; omega)
theorem leave_in {p : Int × Int} (I : Inv t T c s w (p :: o) ts x) {K : Sn → Prop} (h : ∀ beg1, P2 t { s with seen := .int w.now, beg := beg1, emp := .none } w → K { s with seen := .int w.now, beg := beg1, emp := .none }) :
    leaveOut { s with seen := .int w.now } p.1 K := by
  obtain ⟨m, em, ph⟩ := I
  obtain ⟨win, fl, cr, beg, idl, emp, seen, me, fr, fc⟩ := s
  cases em with
  | non e1 e2 _ =>
    cases e1
    refine h beg ?_
    cases ph with
    | nb x a b c d e f => exact .nb a b c d e f
    | idl x b i a c d e g q r z => exact .idl b i a c d e (g.to (Int.le_refl _) rfl rfl rfl rfl rfl rfl) q
    | onN b a c d e g q r => exact .on b a c d e (g.to (Int.le_refl _) rfl rfl rfl rfl rfl rfl) q
  | som E e e1 e2 e3 e4 e5 e6 e7 =>
    cases e1
    have he := e4 p (.head _)
    refine br_in (fun _ => ?_) (fun hh => absurd he (of_decide_eq_false hh))
    cases ph with
    | nb x a b c d e f =>
      cases a; cases b
      exact h .none (.nb rfl rfl c d e f)
    | idl x b i a c d e g q r z =>
      cases a; cases c
      exact h (.int b) (.idl b i rfl rfl d e (g.to (Int.le_refl _) rfl rfl rfl rfl rfl rfl) q)
    | onS b _ _ a c d e g q r =>
      cases a; cases c
      exact h (.int (b + (p.1 - E))) (.on (b + (p.1 - E)) rfl rfl d e (g.to (Int.le_refl _) rfl rfl rfl rfl rfl rfl) (by dsimp only [hd] at r; omega))
theorem note_in {s : Sn} {now : Int} {eld : Bool} (he : s.emp = .none) (hfl : s.fl = sm2 o + el eld) (pos : 0 ≤ sm2 o ∧ (sm2 o = 0 → o = [])) {K : Sn → Prop} (h : ∀ e, NE2 now eld o e → K { s with emp := e }) : noteEmpty s now K := by
  obtain ⟨win, fl, cr, beg, idl, emp, seen, me, fr, fc⟩ := s
  cases he
  cases eld with
  | true =>
    rw [el_t] at hfl
    exact br_in (fun hz => by have hz : fl = 0 := by simpa using hz
                              dsimp only at hfl; omega) (fun _ => h .none (.inl ⟨rfl, .inr rfl⟩))
  | false =>
    rw [el_f] at hfl
    refine br_in (fun hz => ?_) (fun hz => ?_)
    · have hz : fl = 0 := by simpa using hz
      exact h (.int now) (.inr ⟨rfl, pos.2 (by dsimp only at hfl; omega), rfl⟩)
    · have hz : fl ≠ 0 := by simpa using hz
      exact h .none (.inl ⟨rfl, .inl fun e => by subst e; exact hz hfl⟩)
theorem grow_in {s : Sn} {w : Wl} {b size now sm : Int} (hw : s.win = w.win) (hc : s.cr = w.cr) (hf : s.fr = w.fr) (hr : s.fc = w.re) (hm : s.meets = mt) (hp : now - b = w.pas)
    (h1 : 0 < w.win) (h2 : w.win ≤ 1000000) (e1 : 0 ≤ w.pas) (e2 : w.pas ≤ 1000000000) (s1 : 0 ≤ sm) (s2 : sm ≤ 1000000000) (z1 : 0 ≤ size) (z2 : size ≤ 8400) {K : Sn → Prop} {K2 : Sn → Wl → Prop}
    (hK : ∀ s', gw1 w size sm (fun w' => K2 s' w') → K s')
    (h : ∀ W C F R, W = nW w.win F w.cr w.pas sm size → C = nC w.win F w.cr w.pas sm size → F = nF w.win w.fr w.re size → R = nR w.win w.fr w.re size → K2 { s with win := W, cr := C, fr := F, fc := R } { w with win := W, cr := C, fr := F, re := R }) :
    growP s b size now sm K := by
  obtain ⟨win, fl, cr, beg, idl, emp, seen, me, fr, fc⟩ := s
  dsimp only at hw hc hf hr hm
  subst hw; subst hc; subst hf; subst hr; subst hm
  refine gf_in h1 h2 (gc_in h1 h2 (by omega) (by omega) s1 s2 z1 z2 (hK _ (gw_in h1 h2 e1 e2 s1 s2 z1 z2 ?_)))
  rw [hp]
  exact h _ _ _ _ rfl rfl rfl rfl
end
end Mine
end
section
namespace Mine
open PySem PySem.W PySem.Spec PySem.Calls PyProof.Rows
section
variable {t T c : Int} {ns : List Int} {s : Sn} {w : Wl} {o : Outs} {ts : Int} {x : EmX} {k : KT}
-- what stands behind the sender's own part, at an acknowledgement that the window was full at
theorem full_in {s : Sn} {w : Wl} {o : Outs} {size sm b : Int} (ht : t < 14) (m : Cm t T c s w o w.now) (hb : s.beg = .int b) (hi : s.idl = .none) (wb : w.beg = true) (wi : w.idl = false) (g : Gr t s w) (hp : w.pas = w.now - b) (he : NE2 w.now w.eld o s.emp)
    (s1 : 0 ≤ sm) (s2 : sm ≤ 1000000000) (z1 : 0 ≤ size) (z2 : size ≤ 8400) {K : Sn → Prop} (hK : ∀ s', gw1 w size sm (fun w' => ackedP.endP k c s' w' o) → K s') (hk : AnyK (t + 1) T k) : growP s b size w.now sm K := by
  have lo := m.lo
  have hi' := m.hi
  have T1 := m.T1
  have t1 := m.t1
  have p1 := m.p1
  refine grow_in m.win m.cr g.fr g.fc g.m hp.symm (by omega) (by omega) m.p0 (by omega) s1 s2 z1 z2 hK fun W C F R eW eC eF eR => ?_
  have bF := nF_bd (fr := w.fr) lo g.r0 g.r1 z1 z2
  have bW := nW_bd (f := F) (cr := w.cr) (e := w.pas) (sm := sm) lo m.cr0 m.cr1 z1 z2
  rw [← eF, ← eR] at bF
  rw [← eW, ← eC] at bW
  have f1 := g.f1
  have len := m.len
  refine endP_in ⟨m.c0, by have := m.t0; omega, by omega, T1, m.now, rfl, m.fl, ?_, ?_, ?_, m.out, rfl, bW.2.2.1, ?_, m.seen, Int.le_refl _, m.p0, m.p1, m.s0, m.s1⟩ he (.on b hb hi wb wi ⟨g.m, rfl, rfl, bF.2.2.1, ?_, ?_⟩ hp) hk
  · dsimp only; omega
  · dsimp only; omega
  · omega
  · dsimp only; omega
  · dsimp only; omega
  · dsimp only; omega
theorem acked_in {p : Int × Int} (I : Inv t T c s w (p :: o) ts x) (ht : t < 14) (hn : ns.length ≤ 56) (hk : AnyK (t + 1) T k) : ackedP c ns s w (p :: o) k := by
  have m := I.cm
  have len := m.len
  have c0 := m.c0
  have op := m.out p (.head _)
  have lo := m.lo
  have hi' := m.hi
  simp only [List.length_cons] at len
  refine need_in (decide_eq_true (by omega)) ⟨c0, hn, by decide, by decide, fun r r0 r1 => ⟨by omega, hn, by decide, by decide, fun j j0 j1 => need_in ?_ ?_⟩⟩
  · simp only [Bool.and_eq_true, decide_eq_true_eq, List.length_cons, List.length_nil]; omega
  have hz : ∃ z, [100000, 1000, 400000].getD j.toNat 0 = z ∧ (0 : Int) ≤ z ∧ z ≤ 1000000000 := by
    have : j = 0 ∨ j = 1 ∨ j = 2 := by omega
    rcases this with rfl | rfl | rfl <;> exact ⟨_, rfl, by decide, by decide⟩
  obtain ⟨sm, hz, z0, z1⟩ := hz
  rw [hz]
  refine leave_in I fun beg1 ph => ?_
  have pos := sm2_pos (o := o) fun q hq => (m.out q (.tail _ hq)).2.2.1
  refine note_in (o := o) (eld := w.eld) rfl (by dsimp only; rw [m.fl]; simp only [sm2]; omega) pos fun emp he => ?_
  -- the state now
  have cm : ∀ (beg idl : V) (me fr fc : Int), Cm t T (c + 1 + 1) ⟨s.win, s.fl - p.2, s.cr, beg, idl, emp, .int w.now, me, fr, fc⟩ w o w.now := fun _ _ _ _ _ =>
    ⟨by omega, m.t0, m.t1, m.T1, m.now, m.win, by dsimp only; rw [m.fl]; simp only [sm2]; omega, m.lo, m.hi, by omega, fun q hq => m.out q (.tail _ hq), m.cr, m.cr0, m.cr1, rfl, Int.le_refl _, m.p0, m.p1, m.s0, m.s1⟩
  have cm1 : ∀ (beg idl : V) (me fr fc : Int) (wi : Bool), Cm (t + 1) T (c + 1 + 1) ⟨s.win, s.fl - p.2, s.cr, beg, idl, emp, .int w.now, me, fr, fc⟩ { w with idl := wi } o w.now := fun beg idl me fr fc wi => by
    have m := cm beg idl me fr fc
    exact ⟨m.c0, by have := m.t0; omega, by omega, m.T1, m.now, m.win, m.fl, m.lo, by dsimp only; omega, by omega, m.out, m.cr, m.cr0, m.cr1, m.seen, m.ts1, m.p0, m.p1, m.s0, m.s1⟩
  refine br_in (fun hl => ?_) (fun hl => ?_)
  · have hl : decide (r < 4) = false := by simpa using hl
    have E : ∀ (X Y : Prop), Y → br (decide (r < 4)) X Y := fun X Y y => br_in (fun h => by rw [hl] at h; cases h) (fun _ => y)
    unfold pauseP
    cases ph with
    | nb a b wb wi e f =>
      dsimp only at a b ⊢
      rw [a, b]
      dsimp only
      refine E _ _ (br_in (fun h => by rw [wb] at h; cases h) fun _ => ?_)
      have := cm1 .none .none s.meets s.fr s.fc w.idl
      exact endP_in this he (.nb rfl rfl wb wi e f) hk
    | idl b i a cc wb wi g q =>
      dsimp only at a cc ⊢
      rw [a, cc]
      dsimp only
      refine E _ _ (br_in (fun _ => ?_) fun h => by rw [wb] at h; cases h)
      exact endP_in (cm1 _ _ s.meets s.fr s.fc true) he (.idl b i rfl rfl wb rfl (g.to (by omega) rfl rfl rfl rfl rfl rfl) q) hk
    | on b a cc wb wi g q =>
      dsimp only at a cc ⊢
      rw [a, cc]
      dsimp only
      refine E _ _ (br_in (fun _ => ?_) fun h => by rw [wb] at h; cases h)
      exact endP_in (cm1 _ _ s.meets s.fr s.fc true) he (.idl b w.now rfl rfl wb rfl (g.to (by omega) rfl rfl rfl rfl rfl rfl) q) hk
  · have hl : decide (r < 4) = true := by simpa using hl
    refine br_in (fun h => absurd (of_decide_eq_true h) (by omega)) (fun _ => br_in (fun h => absurd (of_decide_eq_true h) (by dsimp only; rw [m.win]; omega)) (fun _ => ?_))
    have E : ∀ (X Y : Prop), X → br (decide (r < 4)) X Y := fun X Y y => br_in (fun _ => y) (fun h => by rw [hl] at h; cases h)
    cases ph with
    | nb a b wb wi e f =>
      dsimp only at a b ⊢
      rw [a, b]
      dsimp only
      have mm := cm (.int w.now) .none 1957433 s.win 0
      refine full_in (w := { w with idl := false, beg := true, pas := 0, fr := w.win }) ht
        ⟨mm.c0, mm.t0, mm.t1, mm.T1, mm.now, mm.win, mm.fl, mm.lo, mm.hi, mm.len, mm.out, mm.cr, mm.cr0, mm.cr1, mm.seen, mm.ts1, Int.le_refl _, by have := mm.p0; have := mm.p1; dsimp only; omega, mm.s0, mm.s1⟩
        rfl rfl rfl rfl ⟨rfl, m.win, f.symm, by dsimp only; omega, by dsimp only; omega, by have := m.t0; dsimp only; omega⟩ (by dsimp only; omega) he z0 z1 (by omega) (by omega) (fun s' h => E _ _ (br_in (fun _ => h) fun h => by rw [wb] at h; cases h)) hk
    | idl b i a cc wb wi g q =>
      dsimp only at a cc ⊢
      rw [a, cc]
      dsimp only
      have mm := cm (.int (b + (w.now - i))) .none s.meets s.fr s.fc
      refine full_in (w := { w with idl := false }) ht
        ⟨mm.c0, mm.t0, mm.t1, mm.T1, mm.now, mm.win, mm.fl, mm.lo, mm.hi, mm.len, mm.out, mm.cr, mm.cr0, mm.cr1, mm.seen, mm.ts1, mm.p0, mm.p1, mm.s0, mm.s1⟩
        rfl rfl wb rfl (g.to (Int.le_refl _) rfl rfl rfl rfl rfl rfl) (by dsimp only; omega) he z0 z1 (by omega) (by omega) (fun s' h => E _ _ (br_in (fun h => by rw [wb] at h; cases h) fun _ => h)) hk
    | on b a cc wb wi g q =>
      dsimp only at a cc ⊢
      rw [a, cc]
      dsimp only
      have mm := cm (.int b) .none s.meets s.fr s.fc
      refine full_in (w := { w with idl := false }) ht
        ⟨mm.c0, mm.t0, mm.t1, mm.T1, mm.now, mm.win, mm.fl, mm.lo, mm.hi, mm.len, mm.out, mm.cr, mm.cr0, mm.cr1, mm.seen, mm.ts1, mm.p0, mm.p1, mm.s0, mm.s1⟩
        rfl rfl wb rfl (g.to (Int.le_refl _) rfl rfl rfl rfl rfl rfl) q he z0 z1 (by omega) (by omega) (fun s' h => E _ _ (br_in (fun h => by rw [wb] at h; cases h) fun _ => h)) hk
end
end Mine
end
section
namespace Mine
open PySem PySem.W PySem.Spec PySem.Calls PyProof.Rows
section
variable {t T c : Int} {ns : List Int} {s : Sn} {w : Wl} {o : Outs} {ts : Int} {x : EmX} {k : KT}
theorem Inv.cc (I : Inv t T c s w o ts x) {c' : Int} (h : c ≤ c') : Inv t T c' s w o ts x :=
  have m := I.cm
  ⟨⟨by have := m.c0; omega, m.t0, m.t1, m.T1, m.now, m.win, m.fl, m.lo, m.hi, m.len, m.out, m.cr, m.cr0, m.cr1, m.seen, m.ts1, m.p0, m.p1, m.s0, m.s1⟩, I.em, I.ph⟩
theorem elif_in {form : Int} (I : Inv t T c s w o ts x) (ht : t < 14) (hn : ns.length ≤ 56) (hk : AnyK (t + 1) T k) : formP.elifP form ns s w o k c := by
  refine br_in (fun _ => body2_in I ht hk) (fun _ => br_in (fun _ => body3_in I ht hn hk) (fun _ => br_in (fun _ => body3_in I ht hn hk) (fun h => ?_)))
  cases o with
  | nil => cases h
  | cons p o => exact acked_in I ht hn hk
theorem form_in {form : Int} (I : Inv t T c s w o ts x) (ht : t < 14) (hn : ns.length ≤ 56) (hk : AnyK (t + 1) T k) : formP form c ns s w o k := by
  have go : (w.eld = true ∨ o ≠ []) → anyT c ns 2 fun t => br (t == 1) (body1 (c + 1) s w o k) (formP.elifP form ns s w o k (c + 1)) := fun h =>
    ⟨I.cm.c0, hn, by decide, by decide, fun r _ _ => br_in (fun _ => body1_in (I.cc (by omega)) ht h hk) (fun _ => elif_in (I.cc (by omega)) ht hn hk)⟩
  exact br_in (fun _ => br_in (fun h => go (.inl h)) (fun _ => br_in (fun h => go (.inr (by intro e; rw [e] at h; cases h))) (fun _ => elif_in I ht hn hk))) (fun _ => elif_in I ht hn hk)
theorem turn_in (I : Inv t t c s w o ts x) (ht : t < 14) (hn : ns.length ≤ 56) (hk : AnyK (t + 1) (t + 1) k) : turnP c ns s w o k := by
  have c0 := I.cm.c0
  refine ⟨c0, hn, by decide, by decide, fun form _ _ => ⟨by omega, hn, by decide, by decide, fun j j0 j1 => need_in ?_ ?_⟩⟩
  · simp only [Bool.and_eq_true, decide_eq_true_eq, List.length_cons, List.length_nil]; omega
  have hz : ∃ z, [0, 20000, 100000, 700000, 9900000].getD j.toNat 0 = z ∧ (0 : Int) ≤ z ∧ z ≤ 9900000 := by
    have : j = 0 ∨ j = 1 ∨ j = 2 ∨ j = 3 ∨ j = 4 := by omega
    rcases this with rfl | rfl | rfl | rfl | rfl <;> exact ⟨_, rfl, by decide, by decide⟩
  obtain ⟨z, hz, z0, z1⟩ := hz
  rw [hz]
  exact time_in I ht z0 z1 (X := fun w => formP form (c + 1 + 1) ns s w o fun c s w o => checkP c s w o k) fun w' I' => form_in (I'.cc (by omega)) ht hn fun c s w o ts x I2 => check_in I2 (hk c s w o ts x I2)
-- one turn of the loop, on the evaluator
theorem turn_wp (P : Params) (r : Hp) {kk : Hp → Prop} (I : Inv t t c s w o ts x) (ht : t < 14) (hn : ns.length ≤ 56) (hk : ∀ c s w o ts x, Inv (t + 1) (t + 1) c s w o ts x → kk (H5 c ns s w o r)) :
    WpC (Kx P) hk1 60 (.sts (scpOf (stAt 26)) loopBody loc0 (H5 c ns s w o r) (LK kk)) := by
  have main := turn_in (k := fun c s w o => okC ∧ kk (H5 c ns s w o r)) I ht hn fun c s w o ts x I2 => ⟨⟨rfl, rfl, rfl⟩, hk c s w o ts x I2⟩
  obtain ⟨m, em, ph⟩ := I
  obtain ⟨win, fl, cr, beg, idl, emp, seen, me, fr, fc⟩ := s
  obtain ⟨now, eld, win', beg', idl', pas, emp', seen', fr', re', cr'⟩ := w
  have q1 := m.seen
  have q2 := m.win
  dsimp only at q1 q2
  subst q1
  cases em with
  | non e1 e2 e3 =>
    dsimp only at e1 e2 e3
    subst e1; subst e2
    cases ph with
    | nb x a b c d e f =>
      dsimp only at a b c d e
      subst a; subst b; subst c; subst d; subst e; subst q2
      cases eld with
      | true => cases o with
        | nil => rw [turn_nn_nt0]; exact main
        | cons p o => rw [turn_nn_ntc]; exact main
      | false => cases o with
        | nil => exact (e3.elim (fun h => h rfl) (fun h => Bool.noConfusion h)).elim
        | cons p o => rw [turn_nn_nfc]; exact main
    | idl x b i a c d e =>
      dsimp only at a c d e
      subst a; subst c; subst d; subst e
      cases eld with
      | true => cases o with
        | nil => rw [turn_bi_nt0]; exact main
        | cons p o => rw [turn_bi_ntc]; exact main
      | false => cases o with
        | nil => exact (e3.elim (fun h => h rfl) (fun h => Bool.noConfusion h)).elim
        | cons p o => rw [turn_bi_nfc]; exact main
    | onN b a c d e =>
      dsimp only at a c d e
      subst a; subst c; subst d; subst e
      cases eld with
      | true => cases o with
        | nil => rw [turn_bn_nt0]; exact main
        | cons p o => rw [turn_bn_ntc]; exact main
      | false => cases o with
        | nil => exact (e3.elim (fun h => h rfl) (fun h => Bool.noConfusion h)).elim
        | cons p o => rw [turn_bn_nfc]; exact main
  | som E e e1 e2 e3 =>
    dsimp only at e1 e2 e3
    subst e1; subst e2; subst e3
    cases ph with
    | nb x a b c d e f =>
      dsimp only at a b c d e
      subst a; subst b; subst c; subst d; subst e; subst q2
      cases o with
        | nil => rw [turn_nn_ef0]; exact main
        | cons p o => rw [turn_nn_efc]; exact main
    | idl x b i a c d e =>
      dsimp only at a c d e
      subst a; subst c; subst d; subst e
      cases o with
        | nil => rw [turn_bi_ef0]; exact main
        | cons p o => rw [turn_bi_efc]; exact main
    | onS b _ _ a c d e =>
      dsimp only at a c d e
      subst a; subst c; subst d; subst e
      cases o with
        | nil => rw [turn_bn_ef0]; exact main
        | cons p o => rw [turn_bn_efc]; exact main
end
end Mine
end
section
namespace Mine
open PySem PySem.W PySem.Spec PySem.Calls PyProof.Rows
noncomputable def fiI (P : Params) : FI := (fnAt (Kx P) 161).getD ⟨S "", [], [], scpOf (stAt 26), .none⟩
theorem fiI_ok (P : Params) : fnAt (Kx P) 161 = some (fiI P) := by kernel_rfl
theorem fiI_names (P : Params) : (fiI P).names = [S "self", S "datagram"] := by kernel_rfl
def initO : O := .attrs [(S "datagram", .int 1200), (S "window", .int 12000), (S "threshold", .none), (S "recovery_at", .none), (S "in_flight", .int 0), (S "credit", .int 0), (S "top_window", .int 0), (S "prior_window", .int 0),
  (S "begun_at", .none), (S "idle_since", .none), (S "empty_since", .none), (S "seen_at", .none), (S "meets_after", .int 0), (S "friendly", .int 0), (S "friendly_credit", .int 0)]
noncomputable def five : List Stmt := ((bodOf (stAt 26)).drop 1).take 5
abbrev locP : Loc := [(S "sender", .ref 2), (S "box", .ref 0)]
def updO (e : V) : O := .dict [(S "empty", e), (S "seen", .int 0), (S "friendly", .int 0), (S "rest", .int 0), (S "credit", .int 0), (S "meets", .int 1957433)]
def preP (ns : List Int) (k : KT) : Prop := anyT 0 ns 2 fun e => br (e == 1)
  (br (e == 1) (k 1 ⟨8400, 1200, 0, .none, .none, .none, .int 1, 0, 0, 0⟩ ⟨2, e == 1, 8400, false, false, 0, .none, 0, 0, 0, 0⟩ []) (k 1 ⟨8400, 1200, 0, .none, .none, .none, .int 1, 0, 0, 0⟩ ⟨2, e == 1, 8400, false, false, 0, .int 0, 0, 0, 0, 0⟩ []))
  (br (e == 1) (k 1 ⟨8400, 0, 0, .none, .none, .int 1, .int 1, 0, 0, 0⟩ ⟨2, e == 1, 8400, false, false, 0, .none, 0, 0, 0, 0⟩ []) (k 1 ⟨8400, 0, 0, .none, .none, .int 1, .int 1, 0, 0, 0⟩ ⟨2, e == 1, 8400, false, false, 0, .int 0, 0, 0, 0, 0⟩ []))
theorem pre_eq (P : Params) (ns : List Int) (k : Hp → Prop) : WpC (Kx P) hk1 70 (.sts (scpOf (stAt 26)) five locP [.list [.ref 1, .int 0], .ints ns, .inst 248 3, initO] (LK k)) =
    preP ns (fun c s w o => okC ∧ k (H5 c ns s w o [updO w.emp])) := by kernel_rfl
end Mine
end
section
namespace Mine
open PySem PySem.W PySem.Spec PySem.Calls PyProof.Rows
theorem pre_in {ns : List Int} (hn : ns.length ≤ 56) {k : KT} (hk : AnyK 0 0 k) : preP ns k := by
  refine ⟨by decide, hn, by decide, by decide, fun e _ _ => br_in (fun h => br_in (fun _ => ?_) (fun h2 => by rw [h] at h2; cases h2)) (fun h => br_in (fun h2 => by rw [h] at h2; cases h2) (fun _ => ?_))⟩
  · generalize (e == 1) = b at h ⊢
    subst h
    refine hk _ _ _ _ 1 none ⟨⟨by decide, by decide, by decide, by decide, by decide, rfl, ?_, by decide, by decide, by decide, fun p hp => (nomatch hp), rfl, by decide, by decide, rfl, by decide, by decide, by decide, by decide, by decide⟩, .non rfl rfl (.inr rfl), .nb _ rfl rfl rfl rfl rfl rfl⟩
    rfl
  · generalize (e == 1) = b at h ⊢
    subst h
    refine hk _ _ _ _ 1 (some (1, 0)) ⟨⟨by decide, by decide, by decide, by decide, by decide, rfl, ?_, by decide, by decide, by decide, fun p hp => (nomatch hp), rfl, by decide, by decide, rfl, by decide, by decide, by decide, by decide, by decide⟩,
      .som 1 0 rfl rfl rfl (fun p hp => (nomatch hp)) (by decide) (by decide) (by decide), .nb _ rfl rfl rfl rfl rfl rfl⟩
    rfl
-- a weaker kind of passing on: only what pairs want
structure Ext2 (ρ : List Addr) (tl : Led) (tl' : Led) : Prop where
  t : ∀ (p : Addr) (x y : Value), (p, tupO x y) ∈ tl → (p, tupO x y) ∈ tl'
theorem VR.ext2 {ρ : List Addr} {tl tl' : Led} (e : Ext2 ρ tl tl') : ∀ {v : V} {x : Value}, VR ρ tl v x → VR ρ tl' v x
  | .int _, _, h => h
  | .bool _, _, h => h
  | .none, _, h => h
  | .str _, _, h => h
  | .ref _, _, h => h
  | .pair _ _, _, ⟨p, t, u, q, h⟩ => ⟨p, t, u, q, e.t _ _ _ h⟩
  | .kref _, _, h => h
  | .bi _, _, h => h
theorem OR.ext2 {prog : Program} {w : World} {ρ : List Addr} {tl tl' : Led} (e : Ext2 ρ tl tl') : ∀ {v : O} {x : Obj}, OR prog w ρ tl v x → OR prog w ρ tl' v x
  | .inst _ _, _, h => h
  | .attrs _, _, ⟨des, n, q, h⟩ => ⟨des, n, q, h.mono fun _ _ y => ⟨y.1, y.2.ext2 e⟩⟩
  | .dict _, _, ⟨kvs, q, h⟩ => ⟨kvs, q, h.mono fun _ _ y => ⟨y.1, y.2.ext2 e⟩⟩
  | .list _, _, ⟨its, n, q, h⟩ => ⟨its, n, q, h.mono fun _ _ y => y.ext2 e⟩
  | .ints _, _, h => h
  | .pairs _, _, ⟨its, n, q, h⟩ => ⟨its, n, q, h.mono fun _ _ y => VR.ext2 e y⟩
theorem nodup_inj {l : Led} (h : (l.map (·.1)).Nodup) {p : Addr} {a b : Obj} (ha : (p, a) ∈ l) (hb : (p, b) ∈ l) : a = b := by
  induction l with
  | nil => cases ha
  | cons q l ih =>
    rw [List.map_cons, List.nodup_cons] at h
    rcases List.mem_cons.mp ha with e1 | h1
    · rcases List.mem_cons.mp hb with e2 | h2
      · rw [← e1] at e2; exact (Prod.mk.inj e2).2.symm
      · exact absurd (by rw [← e1]; exact List.mem_map_of_mem (f := (·.1)) h2) h.1
    · rcases List.mem_cons.mp hb with e2 | h2
      · exact absurd (by rw [← e2]; exact List.mem_map_of_mem (f := (·.1)) h1) h.1
      · exact ih h.2 h1 h2
end Mine
end
section
namespace Mine
open PySem PySem.W PySem.Spec PySem.Calls PyProof.Rows
theorem loc0_cases {x : Str} {v : V} (h : loc0.lookup x = some v) : (x = S "box" ∧ v = .ref 0) ∨ (x = S "sender" ∧ v = .ref 2) ∨ (x = S "world" ∧ v = .ref 4) := by
  rw [List.lookup_cons] at h
  by_cases e1 : x = S "box"
  · subst e1; rw [beq_self_eq_true] at h; cases h; exact .inl ⟨rfl, rfl⟩
  · rw [beq_false_of_ne e1] at h
    dsimp only at h
    rw [List.lookup_cons] at h
    by_cases e2 : x = S "sender"
    · subst e2; rw [beq_self_eq_true] at h; cases h; exact .inr (.inl ⟨rfl, rfl⟩)
    · rw [beq_false_of_ne e2] at h
      dsimp only at h
      rw [List.lookup_cons] at h
      by_cases e3 : x = S "world"
      · subst e3; rw [beq_self_eq_true] at h; cases h; exact .inr (.inr ⟨rfl, rfl⟩)
      · rw [beq_false_of_ne e3] at h; cases h
theorem loc0_LR {ρ : List Addr} {tl : Led} {loc : Loc} {m : Str → Option Value} (o : okLoc loc) (h : LR ρ tl loc m) : LR ρ tl loc0 m := fun x v e => by
  rcases loc0_cases e with ⟨rfl, rfl⟩ | ⟨rfl, rfl⟩ | ⟨rfl, rfl⟩
  · exact h _ _ o.1
  · exact h _ _ o.2.1
  · exact h _ _ o.2.2
theorem LR.ext2 {ρ : List Addr} {tl tl' : Led} {loc : Loc} {m : Str → Option Value} (h : LR ρ tl loc m) (e : Ext2 ρ tl tl') : LR ρ tl' loc m := fun x v q => by
  obtain ⟨v', h1, h2⟩ := h x v q
  exact ⟨v', h1, h2.ext2 e⟩
theorem loc0_turn {ρ : List Addr} {tl : Led} {m : Str → Option Value} {u : Option Value} (h : LR ρ tl loc0 m) : LR ρ tl loc0 (fun y => if y = S "turn" then u else m y) := fun x v e => by
  have hx : x ≠ S "turn" := by
    rcases loc0_cases e with ⟨rfl, _⟩ | ⟨rfl, _⟩ | ⟨rfl, _⟩ <;> decide +kernel
  obtain ⟨v', h1, h2⟩ := h x v e
  exact ⟨v', (if_neg hx).trans h1, h2⟩
def Jn (prog : Program) (w : World) (ns : List Int) (ρ₀ : List Addr) (tl₀ : Led) (i : Nat) (m : Str → Option Value) (news : Led) : Prop := ∃ c s w' o ts x r ρ tl os, Inv (i : Int) (i : Int) c s w' o ts x ∧ news = ρ.zip os ++ tl ∧ F2 (OR prog w ρ tl) (H5 c ns s w' o r) os ∧ os.length = ρ.length ∧ (ρ ++ tl.map (·.1)).Nodup ∧
  (∀ a ∈ ρ, (a == sysModules) = false) ∧ LR ρ tl loc0 m ∧ Ext ρ₀ tl₀ ρ tl
theorem loop_ok {prog : Program} {w : World} {p : Program} {loose : List Str} {mean : ExcName → Option Value} {mg mb : Str → Option Value} (C : HkOk prog w (Kx w.params) p loose mean mg mb hk1 30)
    {f : Fm} (hcs : f.cs = scpOf (stAt 26)) (ok : FmOk (Kx w.params) p loose mean mg mb f 90) {m : Str → Option Value} {c : Int} {ns : List Int} {s : Sn} {w' : Wl} {o : Outs} {r : Hp} {ts : Int} {x : EmX} {ρ : List Addr} {tl : Led} {os : List Obj} {st : Shared} {Q : Flow → Shared → Prop}
    {px p1 p2 p3 pos : Pos} (hn : ns.length ≤ 56) (I : Inv 0 0 c s w' o ts x) (X : At prog w f m ρ tl (H5 c ns s w' o r) os loc0 st) (hQ : ∀ m' h' tk ρ' tl' hp' os', Fr f.h₀ f.L h' m' → Ext ρ tl ρ' tl' → HR prog w ρ' tl' hp' os' f.h₀ f.L h' → LR ρ' tl' loc0 m' → Q .next { st with heap := h', toks := tk }) :
    wpAny (model prog w) f.A (exec (.For (.Name (S "turn") px) (.Call (.Name (S "range") p1) [.Constant (.int 14) 0 p2] [] p3) loopBody [] pos) f.env) Q NE st := by
  have hturn : f.cs.names.lookup (S "turn") = some .local := by rw [hcs]; kernel_rfl
  have hrange : f.cs.names.lookup (S "range") = some .globalImplicit := by rw [hcs]; kernel_rfl
  have nosum : nsIn (Kx w.params) mainGlobals (Str.ofString "sum") = some none := by kernel_rfl
  have norange : nsIn (Kx w.params) mainGlobals (S "range") = some none := by kernel_rfl
  refine For_invV f.h₀ hturn (by show (f.cs.kind == .class || (f.cs.kind == .module && _)) = false; rw [ok.ck]; rfl) ?_ (by intro _; rfl) PassesOwn.never
  refine Call_ (nameX_B X.1 ok.X (topRead_of ok.T) norange boot_range (by decide +kernel) ?_ ok.ck hrange (by decide +kernel)) rfl
  refine PyProof.Rows.callWith_type1 (args_cons (wpAny_Constant_int (k := 0) (pos := p2) (args_nil ?_)) rfl) rfl rfl
  refine range1_rows (s := { st with toks := st.toks + 1 }) X.1 X.2.1.news fun h1 tk1 t₁ u₁ v₁ hr F1 N1 _ => ?_
  refine wpAny_pyIter_range hr (small_one (by decide) (by decide) (by decide) (by decide)) ?_
  have F2' := F1.push { cls := .type "range_iterator", data := .fields #[rawInt 0, rawInt (Builtin.Range.rangeSize 0 14 1), rawInt 1] }
  refine ⟨h1.objs.size, [h1.objs.size], [h1.objs.size], 14, _, _, m, ρ.zip os ++ tl, Jn prog w ns ρ tl, rfl, Walks.range rfl _ 0 1 14, ?_, ?_, ?_, Heap.get?_push_size _ rfl, F2', fun p hp => ⟨Heap.get?_push_of_some _ (N1 p hp).1, (N1 p hp).2⟩, ?_, ?_, ?_⟩
  · intro hm
    exact absurd F1.ns.lt ((List.mem_singleton.mp hm) ▸ Nat.lt_irrefl _)
  · intro b hb
    rw [List.mem_singleton.mp hb]
    exact next_is_new F1
  · intro p hp hI
    exact absurd (Heap.lt_size (N1 p hp).1) ((List.mem_singleton.mp hI) ▸ Nat.lt_irrefl _)
  · exact ⟨c, s, w', o, ts, x, r, ρ, tl, os, I, rfl, X.2.1.f2, X.2.1.len, X.2.1.nd, X.2.1.lo, X.2.2, Ext.refl _ _⟩
  · intro i v m₁ news₁ s₁ own hs₁ hi hP hJ hoff hown hget hall hSt F₁ N₁
    obtain ⟨c, s, w', o, ts, x, r, ρ, tl, os, I, rfl, f2, len, nd, lo, lr, e00⟩ := hJ
    generalize hIa : h1.objs.size = Ia at *
    have hI0 : f.h₀.get? Ia = none := by rw [← hIa]; exact next_is_new F1
    have hSt : s₁.heap.get? Ia = some _ := hSt
    generalize ho : ({ cls := .type "range_iterator", data := .fields _ } : Obj) = oI at hSt
    have hoc : oI.cls = .type "range_iterator" := by rw [← ho]
    have hmem : (Ia, oI) ∈ own := hall _ (.head _) hI0 _ hSt
    have hone : ∀ p ∈ own, p = (Ia, oI) := own_one hown (fun b hb => .inl (List.mem_singleton.mp hb)) hSt N₁
    have hoffI : Ia ∉ ρ ++ tl.map (·.1) := by
      intro hm
      rcases List.mem_append.mp hm with h | h
      · obtain ⟨j, hj, e⟩ := List.mem_iff_getElem.mp h
        have hj2 : j < os.length := len ▸ hj
        exact hoff (Ia, os[j]) (List.mem_append_left _ (zip_get (i := j) (by rw [List.getElem?_eq_getElem hj, e]) (List.getElem?_eq_getElem hj2))) (.head _)
      · obtain ⟨q, hq, e⟩ := List.mem_map.mp h
        exact hoff q (List.mem_append_right _ hq) (by rw [e]; exact .head _)
    have e₀ : Ext ρ tl ρ ((Ia, oI) :: tl) := ⟨fun _ _ h => h, fun _ h => .tail _ h⟩
    have H₀ : HR prog w ρ ((Ia, oI) :: tl) (H5 c ns s w' o r) os f.h₀ f.L s₁.heap := by
      refine ⟨f2.mono fun _ _ y => y.ext prog w e₀, len, fun q hq => N₁ q ?_, ?_, lo⟩
      · rcases List.mem_append.mp hq with h | h
        · exact List.mem_append_right _ (List.mem_append_left _ h)
        · rcases List.mem_cons.mp h with h | h
          · rw [h]; exact List.mem_append_left _ hmem
          · exact List.mem_append_right _ (List.mem_append_right _ h)
      · exact List.perm_middle.nodup_iff.mpr (List.nodup_cons.mpr ⟨hoffI, nd⟩)
    have A₀ : At prog w f (fun y => if y = S "turn" then some v else m₁ y) ρ ((Ia, oI) :: tl) (H5 c ns s w' o r) os loc0 s₁ := ⟨F₁, H₀, (loc0_turn lr).ext e₀⟩
    have W := turn_wp (kk := fun hp => ∃ c s w o ts x, Inv ((i : Int) + 1) ((i : Int) + 1) c s w o ts x ∧ hp = H5 c ns s w o r) w.params r I (by omega) hn fun c s w o ts x I2 => ⟨c, s, w, o, ts, x, I2, rfl⟩
    refine soundC C nosum 60 _ W f hcs ok _ ρ _ os s₁ _ A₀ ?_
    intro fl loc' hp' ρ' tl' os' h' tk' m' fl' a b F H L r'
    cases fl with
    | ret _ => exact a.elim
    | next =>
      have r' : fl' = .next := r'
      subst r'
      obtain ⟨okl, c2, s2, w2, o2, ts2, x2, I2, rfl⟩ := a
      have hIt : (Ia, oI) ∈ tl' := b.t _ (.head _)
      have nd' := H.nd
      have ndt : (tl'.map (·.1)).Nodup := (List.nodup_append.mp nd').2.1
      have e2 : Ext2 ρ' tl' (tl'.filter fun p => p.1 != Ia) := ⟨fun p x y hp => by
        refine List.mem_filter.mpr ⟨hp, ?_⟩
        show (p != Ia) = true
        rw [bne_iff_ne]
        intro e
        subst e
        have := nodup_inj ndt hp hIt
        rw [← this] at hoc
        have hoc : Value.type "tuple" = .type "range_iterator" := hoc
        exact absurd hoc (by decide)⟩
      refine LoopStepV.next (LoopStepU.intro (news₂ := ρ'.zip os' ++ tl'.filter fun p => p.1 != Ia) F (fun p hp => ?_) (fun p hp hm => ?_) ⟨c2, s2, w2, o2, ts2, x2, r, ρ', _, os', ?_, rfl, H.f2.mono fun _ _ y => y.ext2 e2, H.len, ?_, H.lo, (loc0_LR okl L).ext2 e2, ?_⟩)
      · rcases List.mem_append.mp hp with h | h
        · rw [hone p h]; exact H.news _ (List.mem_append_right _ hIt)
        · rcases List.mem_append.mp h with h | h
          · exact H.news _ (List.mem_append_left _ h)
          · exact H.news _ (List.mem_append_right _ (List.mem_filter.mp h).1)
      · have hm := List.mem_singleton.mp hm
        rcases List.mem_append.mp hp with h | h
        · exact (List.nodup_append.mp nd').2.2 _ (mem_zip1 h) _ (List.mem_map_of_mem (f := (·.1)) hIt) hm
        · have := (List.mem_filter.mp h).2
          rw [hm] at this
          simp at this
      · have : ((i + 1 : Nat) : Int) = (i : Int) + 1 := by omega
        rw [this]; exact I2
      · exact (List.Sublist.append_left (List.Sublist.map _ List.filter_sublist) _).nodup nd'
      · refine ⟨fun j a q => b.r j a (e00.r j a q), fun q hq => ?_⟩
        have hq1 := e00.t q hq
        refine List.mem_filter.mpr ⟨b.t q (.tail _ hq1), ?_⟩
        show (q.1 != Ia) = true
        rw [bne_iff_ne]
        intro e
        exact hoffI (List.mem_append_right _ (e ▸ List.mem_map_of_mem (f := (·.1)) hq1))
  · intro h' tk m' news' F' N' _ hJ
    obtain ⟨c, s, w', o, ts, x, r, ρ', tl', os', I, rfl, f2, len, nd, lo, lr, e00⟩ := hJ
    exact hQ m' h' tk ρ' tl' _ os' F' e00 ⟨f2, len, N', nd, lo⟩ lr
end Mine
end
section
namespace Mine
open PySem PySem.W PySem.Spec PySem.Calls PyProof.Rows
abbrev lstE (p1 p2 p3 p4 p5 p6 p7 p8 : Pos) : Expr := .List [.Call (.Name (Str.ofString "list") p1) [.Subscript (.Name (Str.ofString "script") p2) (.Slice none (some (.Constant (.int 56) 0 p3)) none p4) p5] [] p6, .Constant (.int 0) 0 p7] p8
section
variable {prog : Program} {w : World} {K : Frag} {p : Program} {loose : List Str} {mean : ExcName → Option Value} {mg mb : Str → Option Value}
theorem lst_walk (p1 p2 p3 p4 p5 p6 p7 p8 : Pos) {vs : List Value} {ns : List Int} {f : Fm} {m : Str → Option Value} {ax : Addr} {s : Shared} {news : Led} {Q : Value → Shared → Prop}
    (F : Fr f.h₀ f.L s.heap m) (X : K.In f.h₀) (N : News f.h₀ f.L s.heap news) (T : Top p loose mean mg mb f.h₀) (hk : f.cs.kind = .function) (hnl : nsIn K mainGlobals (Str.ofString "list") = some none) (hl : f.cs.names.lookup (Str.ofString "list") = some .globalImplicit) (hs : f.cs.names.lookup (Str.ofString "script") = some .local)
    (hm : m (Str.ofString "script") = some (.ref ax)) (hL : s.heap.IsList ax vs.toArray) (hi : IntsAre vs ns) (hz : ns.length ≤ 63)
    (hret : ∀ l1 l2 l3 ws n2 tk tk' h', IntsAre ws (ns.take 56) → Fr f.h₀ f.L h' m → News f.h₀ f.L h' ((l1, W.listOf [.ref l2, .int 0 tk].toArray 0) :: (l2, W.listOf ws.toArray n2) :: (l3, W.listOf ws.toArray 0) :: news) → l2 < l1 → l3 < l2 → (∀ q ∈ news, q.1 < l3) → Q (.ref l1) { s with heap := h', toks := tk' }) :
    wpAny (model prog w) f.A (eval (lstE p1 p2 p3 p4 p5 p6 p7 p8) f.env) Q NE s := by
  have hvs : vs.toArray.size ≤ sizeLine := by rw [List.size_toArray, hi.length, sizeLine_eq]; omega
  refine List_ (args_cons (Call_ (nameX_B F X (topRead_of T) hnl PyProof.Rows.boot_list (by decide +kernel) ?_ hk hl (by decide +kernel)) rfl) rfl)
  refine PyProof.Rows.callWith_type1 (args_cons (Subscript_ (nameX_L F hm ?_ hk hs (by decide +kernel))) rfl) rfl rfl
  refine wpAny_Slice ?_
  rw [evalPart_none]
  refine wpAny_pure (wpAny_Constant_int (k := 0) (pos := p3) (wpAny_pure ?_))
  refine kmk_slice_ints (s := { s with toks := _ }) F N hL .none (.int 56 _) hi (kmk_upto hi (by decide)) rfl (fun D ws h1 F1 N1 lt1 iw _ _ => ?_) rfl (fun _ => rfl) hvs
  refine args_nil ?_
  have hws : ws.length ≤ 63 := by rw [iw.length, List.length_take]; omega
  refine kup_listOf F1 N1 (.head _) rfl (fun D2 c h2 F2 N2 lt2 => ?_) (by show ws.length ≤ _; rw [sizeLine_eq]; omega)
  refine args_cons (wpAny_Constant_int ?_) rfl
  refine args_nil ?_
  refine newList_K F2 N2 (fun D3 h3 F3 N3 lt3 => ?_) (by rw [sizeLine_eq]; simp)
  exact hret D3 D2 D ws c _ _ h3 iw F3 N3 (lt3 _ (.head _)) (lt2 _ (.head _)) lt1
end
end Mine
end
section
namespace Mine
open PySem PySem.W PySem.Spec PySem.Calls PyProof.Rows
def retK (k : V → Hp → Prop) (fl : Fl) (_ : Loc) (hp : Hp) : Prop := match fl with | .next => k .none hp | .ret v => k v hp
section
variable {prog : Program} {w : World} {K : Frag} {p : Program} {loose : List Str} {mean : ExcName → Option Value} {mg mb : Str → Option Value}
variable {f : Fm} {m : Str → Option Value} {ρ : List Addr} {tl : Led} {hp : Hp} {os : List Obj} {loc : Loc} {s : Shared} {n : Nat} {rec : Job → Prop}
-- a def, entered as a code, under a built-in's frame
theorem code_snd {c : Code} (hu : ∃ d u g, f.A.under c = { f with dp := d, un := u, gd := g }.A ∧ d ≤ f.dp + 1 ∧ u ≤ f.un + 20) {a : Nat} {fi : FI} {vs : List V} {vs' : List Value} {k : V → Hp → Prop} {R : Result → Shared → Prop} (ih : IH prog w K p loose mean mg mb n rec) (ok : FmOk K p loose mean mg mb f (n + 4)) (e : fnAt K a = some fi) (hl : fi.names.length = vs.length)
    (h : rec (.sts fi.scope fi.body (fi.names.zip vs) hp (retK k))) (x : At prog w f m ρ tl hp os loc s) (rv : F2 (VR ρ tl) vs vs') (hQ : KE prog w f m ρ tl s VR k fun v s' => R (.ok (.ret v)) s') :
    codeAny (model prog w) (f.A.under c) (.call (.ref a) ⟨vs', []⟩) R s := by
  obtain ⟨d, u, gd, hA, hd, hu⟩ := hu
  rw [hA]
  obtain ⟨oc, od, osl, fd, e1, e2, e3, e4, e5, e6, e7, e8, e9, e10, e11, e12⟩ := fnAt_ok e
  have hl' : fi.names.length = vs'.length := hl.trans rv.length
  have hb : bindArgs fd ⟨vs', []⟩ = pure (fi.names.zip vs') := by
    rw [e3]
    exact bind_plain e4 e5 (by rw [← e3]; exact hl') (by rw [← e3]; exact e12)
  rw [e2] at e1 hb
  have nk := zip_keys hl'
  refine code_def (env := f.env) (outer := f.outer) (binds := fi.names.zip vs') ok.B x.1 ok.X x.2.1.news ok.T rfl rfl ok.ck e1 e6 ?_ (BindsTo.of_eq hb) ?_ (fun g L' h₁ FG F' N' B' X' T' => ?_) e7 e8 e9 e10
  · have := ok.d
    show d < recursionLimit
    omega
  · intro y hy
    exact e11 _ (mem_zip_names hy)
  · let f' : Fm := { dp := d + 1, un := u + 3, gd := gd, cn := fi.qual, cs := fi.scope, L := L', a := a, ccd := fi.code, outer := f.env :: f.outer, A₀ := { f with dp := d, un := u, gd := gd }.A, base := f.base, h₀ := g }
    have ok' : FmOk K p loose mean mg mb f' n := ⟨B', X', T', e9, by have := ok.d; show d + 1 + n < _; omega, by have := ok.u; show u + 3 + 8 * n + 64 < _; omega⟩
    have nd : ((fi.names.zip vs').map (·.1)).Nodup := by rw [nk]; exact nodupB_ok e12
    have x' : At prog w f' (fun y => (fi.names.zip vs').reverse.lookup y) ρ tl hp os (fi.names.zip vs) { s with heap := h₁, toks := s.toks + (fi.names.zip vs').length } := by
      refine ⟨F', x.2.1.moved N', fun y v hy => ?_⟩
      show ∃ v', (fi.names.zip vs').reverse.lookup y = some v' ∧ VR ρ tl v v'
      rw [look_rev nd]
      exact zip_look rv y v hy
    refine wpAny_mono (ih _ h f' rfl ok' _ ρ tl os _ (fun fl' s' => LeaveK f.h₀ f.L m g R (match fl' with | .ret v => v | _ => .none) s') x' ?_) (fun _ _ y => y) (fun _ _ y => y.elim)
    intro fl loc' hp' ρ' tl' os' h' tk' m' fl' a1 b1 F1 H1 L1 r1
    refine leaveK_ F1 H1.news fun F2 N2 => ?_
    cases fl with
    | next =>
      have r1 : fl' = .next := r1
      subst r1
      exact hQ .none hp' ρ' tl' os' h' tk' .none a1 b1 F2 (H1.moved N2) rfl
    | ret v =>
      obtain ⟨v', rfl, r1⟩ := r1
      exact hQ v hp' ρ' tl' os' h' tk' v' a1 b1 F2 (H1.moved N2) r1
end
end Mine
end
section
namespace Mine
open PySem PySem.W PySem.Spec PySem.Calls PyProof.Rows
abbrev st0 (p1 p2 p3 p4 p5 p6 p7 p8 q1 q2 q3 q4 q5 c1 c2 c3 : Pos) : Stmt := .Assign [.Tuple [.Name (S "box") q1, .Name (S "sender") q2] 0 q3] (.Tuple [lstE p1 p2 p3 p4 p5 p6 p7 p8, .Call (.Name (S "Cubic") c1) [.Constant (.int 1200) 0 c2] [] c3] 0 q4) q5
theorem nohk_ok {prog : Program} {w : World} {K : Frag} {p : Program} {loose : List Str} {mean : ExcName → Option Value} {mg mb : Str → Option Value} : HkOk prog w K p loose mean mg mb nohk 0 := fun _ _ e => nomatch e
theorem init_eq (P : Params) (box lst : O) (k : V → Hp → Prop) : WpC (Kx P) nohk 30 (.sts (fiI P).scope (fiI P).body ((fiI P).names.zip [.ref 2, .int 1200]) [box, lst, .inst 248 3, .attrs []] (retK k)) = k .none [box, lst, .inst 248 3, initO] := by kernel_rfl
theorem stmt0_ok {prog : Program} {w : World} {p : Program} {loose : List Str} {mean : ExcName → Option Value} {mg mb : Str → Option Value} {f : Fm} (hcs : f.cs = scpOf (stAt 26)) (ok : FmOk (Kx w.params) p loose mean mg mb f 40) {m : Str → Option Value} {ns : List Int} {vs : List Value} {ax : Addr} {st : Shared} {Q : Flow → Shared → Prop}
    {p1 p2 p3 p4 p5 p6 p7 p8 q1 q2 q3 q4 q5 c1 c2 c3 : Pos} (hq : q1.line = q2.line) (F : Fr f.h₀ f.L st.heap m) (hm : m (Str.ofString "script") = some (.ref ax)) (hL : st.heap.IsList ax vs.toArray) (hi : IntsAre vs ns) (hz : ns.length ≤ 63)
    (hQ : ∀ m' ρ tl os h' tk, At prog w f m' ρ tl [.list [.ref 1, .int 0], .ints (ns.take 56), .inst 248 3, initO] os locP { st with heap := h', toks := tk } → Q .next { st with heap := h', toks := tk }) :
    wpAny (model prog w) f.A (exec (st0 p1 p2 p3 p4 p5 p6 p7 p8 q1 q2 q3 q4 q5 c1 c2 c3) f.env) Q NE st := by
  have lk : ∀ y kd, (scpOf (stAt 26)).names.lookup y = some kd → f.cs.names.lookup y = some kd := fun y kd h => by rw [hcs]; exact h
  have hbox := lk (S "box") .local (by kernel_rfl)
  have hsend := lk (S "sender") .local (by kernel_rfl)
  have nosum : nsIn (Kx w.params) mainGlobals (Str.ofString "sum") = some none := by kernel_rfl
  have e2 : swappedStores [.Tuple [.Name (S "box") q1, .Name (S "sender") q2] 0 q3] (.Tuple [lstE p1 p2 p3 p4 p5 p6 p7 p8, .Call (.Name (S "Cubic") c1) [.Constant (.int 1200) 0 c2] [] c3] 0 q4) f.env = pure (some [S "box", S "sender"]) := by
    rw [swap_names (a := S "box") (b := S "sender") (env := f.env) ok.ck hbox hsend hq (by decide +kernel) rfl rfl]
    rw [show ([lstE p1 p2 p3 p4 p5 p6 p7 p8, .Call (.Name (S "Cubic") c1) [.Constant (.int 1200) 0 c2] [] c3] : List Expr).all (foldedForSure 8) = false by kernel_rfl,
      show ([lstE p1 p2 p3 p4 p5 p6 p7 p8, .Call (.Name (S "Cubic") c1) [.Constant (.int 1200) 0 c2] [] c3] : List Expr).all (constantsAlone 8) = false by kernel_rfl]
    rfl
  refine Assign_Tuple_swapped (names := [S "box", S "sender"]) (Tuple_ (args_cons ?_ rfl)) rfl e2
  refine lst_walk (K := Kx w.params) p1 p2 p3 p4 p5 p6 p7 p8 F ok.X (News.nil : News _ _ _ []) ok.T ok.ck (by kernel_rfl) (lk _ _ (by kernel_rfl)) (lk _ _ (by kernel_rfl)) hm hL hi hz ?_
  intro l1 l2 l3 ws n2 tk tk' h1 iw F1 N1 lt1 lt2 _
  refine args_cons (Call_ (nameX_K (s := { st with heap := h1, toks := tk' }) F1 ok.X (topRead_of ok.T) (v := .ref 248) (by kernel_rfl) ?_ ok.ck (lk _ _ (by kernel_rfl)) (by decide +kernel)) rfl) rfl
  refine callWith_K ok.X (by kernel_rfl) (args_cons (wpAny_Constant_int (k := 0) (pos := c2) (args_nil ⟨ok.X.keeps F1.keep, ?_⟩)) rfl) rfl rfl
  refine call_cls (s := { st with heap := h1, toks := tk' + 1 }) (K := Kx w.params) (fI := 161) F1 ok.X N1 (by kernel_rfl) (by kernel_rfl) (by kernel_rfl) fun x dx h2 F2 N2 lt3 lt4 => ?_
  -- the heap now
  have m1 := F2.ns.lt
  have dne : ∀ q ∈ ([(l1, W.listOf [.ref l2, .int 0 tk].toArray 0), (l2, W.listOf ws.toArray n2), (l3, W.listOf ws.toArray 0)] : Led), q.1 < dx := lt3
  have d1 : l1 < dx := dne _ (.head _)
  have lo : ∀ a, f.h₀.get? a = none → (a == sysModules) = false := fun a ha => by
    obtain ⟨o, ho⟩ := Option.isSome_iff_exists.mp (show (List.lookup sysModules (Kx w.params)).isSome = true by kernel_rfl)
    refine beq_eq_false_iff_ne.mpr fun e => ?_
    rw [e, ok.X _ _ ho] at ha
    cases ha
  have X0 : At prog w f m [l1, l2, x, dx] [(l3, W.listOf ws.toArray 0)] [.list [.ref 1, .int 0], .ints (ns.take 56), .inst 248 3, .attrs []] [W.listOf [.ref l2, .int 0 tk].toArray 0, W.listOf ws.toArray n2, instObj 248 dx, dictOf [] 0] [] { st with heap := h2, toks := tk' + 1 } := by
    refine ⟨F2, ⟨?_, rfl, ?_, ?_, ?_⟩, fun y v h => by cases h⟩
    · refine .cons ⟨_, _, rfl, .cons ⟨l2, rfl, rfl⟩ (.cons ⟨tk, rfl⟩ .nil)⟩ (.cons ⟨_, _, rfl, iw⟩ (.cons ⟨dx, rfl, rfl⟩ (.cons ⟨[], 0, rfl, .nil⟩ .nil)))
    · intro q hq
      refine N2 q ?_
      simp only [List.zip_cons_cons, List.zip_nil_right, List.cons_append, List.nil_append, List.mem_cons, List.not_mem_nil, or_false] at hq ⊢
      rcases hq with h | h | h | h | h <;> simp [h]
    · have b1 : l2 < dx := Nat.lt_trans lt1 d1
      have b2 : l3 < l1 := Nat.lt_trans lt2 lt1
      have b3 : l3 < dx := Nat.lt_trans b2 d1
      have c1 : l1 < x := Nat.lt_trans d1 lt4
      have c2 : l2 < x := Nat.lt_trans b1 lt4
      have c3 : l3 < x := Nat.lt_trans b3 lt4
      show ([l1, l2, x, dx, l3] : List Addr).Nodup
      simp only [List.nodup_cons, List.mem_cons, List.not_mem_nil, or_false, not_or, List.nodup_nil, and_true, not_false_iff]
      exact ⟨⟨Nat.ne_of_gt lt1, Nat.ne_of_lt c1, Nat.ne_of_lt d1, Nat.ne_of_gt b2⟩, ⟨Nat.ne_of_lt c2, Nat.ne_of_lt b1, Nat.ne_of_gt lt2⟩, ⟨Nat.ne_of_gt lt4, Nat.ne_of_gt c3⟩, Nat.ne_of_gt b3⟩
    · intro a ha
      refine lo a ?_
      simp only [List.mem_cons, List.not_mem_nil, or_false] at ha
      rcases ha with rfl | rfl | rfl | rfl
      · exact (N2 _ (.tail _ (.tail _ (.head _)))).2.2
      · exact (N2 _ (.tail _ (.tail _ (.tail _ (.head _))))).2.2
      · exact (N2 _ (.head _)).2.2
      · exact (N2 _ (.tail _ (.head _))).2.2
  refine code_snd (rec := WpC (Kx w.params) nohk 30) (n := 30) (k := fun v hp => v = .none ∧ hp = [.list [.ref 1, .int 0], .ints (ns.take 56), .inst 248 3, initO]) (vs := [.ref 2, .int 1200]) ⟨f.dp + 1, f.un + 1, f.gd, by kernel_rfl, by omega, by omega⟩ (soundC nohk_ok nosum 30) ⟨ok.B, ok.X, ok.T, ok.ck, by have := ok.d; omega, by have := ok.u; omega⟩ (fiI_ok w.params) (by rw [fiI_names]; rfl) ?_ X0 (.cons ⟨x, rfl, rfl⟩ (.cons ⟨_, rfl⟩ .nil)) ?_
  · rw [init_eq]
    exact ⟨rfl, rfl⟩
  rintro v hp' ρ' tl' os' h3 tk3 v' ⟨rfl, rfl⟩ e3 F3 H3 rv
  refine ⟨rv, ?_⟩
  have x3 : At prog w f m ρ' tl' [.list [.ref 1, .int 0], .ints (ns.take 56), .inst 248 3, initO] os' [] { st with heap := h3, toks := tk3 } := ⟨F3, H3, fun y v h => by cases h⟩
  refine args_nil (snd_newTuple x3 (by simp) fun D h4 x4 e4 => ?_)
  have ht := x4.2.1.news.isTup (List.mem_append_right _ (.head _))
  refine unpackItemsN_ x4.1 x4.2.1.news ht rfl rfl fun h5 F5 N5 => ?_
  have x5 : At prog w f m ρ' _ [.list [.ref 1, .int 0], .ints (ns.take 56), .inst 248 3, initO] os' [] { st with heap := h5, toks := tk3 } := ⟨F5, x4.2.1.moved N5, x4.2.2⟩
  refine assignInOrder_cons (wpAny_bindName (snd_bindName (n := 40) (v := .ref 2) (K := Kx w.params) ok (by unfold isLocal; rw [hsend]; rfl) ⟨x, e3.r 2 _ rfl, rfl⟩ x5 fun h6 x6 => ?_))
  refine assignInOrder_cons (wpAny_bindName (snd_bindName (n := 40) (v := .ref 0) (K := Kx w.params) ok (by unfold isLocal; rw [hbox]; rfl) ⟨l1, e3.r 0 _ rfl, rfl⟩ x6 fun h7 x7 => ?_))
  exact assignInOrder_nil (hQ _ _ _ _ h7 _ x7)
end Mine
end
section
namespace Mine
open PySem PySem.W PySem.Spec PySem.Calls PyProof.Rows
abbrev Ts := Loc → Hp → (Fl → Loc → Hp → Prop) → Prop
noncomputable def tail2 : List Stmt := (bodOf (stAt 26)).drop 6
def isFor (ss : List Stmt) : Bool := match ss with
  | .For .. :: _ => true
  | _ => false
noncomputable def hkS (T : Ts) (X : Prop) (j : Job) : Prop := match j with
  | .sts cs ss loc hp k => @Bool.rec (fun _ => Prop) X (cs = scpOf (stAt 26) ∧ ss = tail2 ∧ T loc hp k) (isFor ss)
  | _ => X
noncomputable def WpS (K : Frag) (C : Hk) (T : Ts) (n : Nat) (j : Job) : Prop := @Nat.rec (fun _ => Job → Prop) (fun _ => False) (fun _ ih j => hkS T (hkJ C (step K ih j) j) j) n j
section
variable {prog : Program} {w : World} {K : Frag} {p : Program} {loose : List Str} {mean : ExcName → Option Value} {mg mb : Str → Option Value}
theorem soundS {C : Hk} {T : Ts} {c : Nat} (hC : HkOk prog w K p loose mean mg mb C c) (hT : ∀ loc hp k, T loc hp k → Snd prog w K p loose mean mg mb c (.sts (scpOf (stAt 26)) tail2 loc hp k)) (nosum : nsIn K mainGlobals (Str.ofString "sum") = some none) :
    ∀ n j, WpS K C T n j → Snd prog w K p loose mean mg mb (n + c) j := by
  intro n
  induction n with
  | zero => intro j h; exact h.elim
  | succ n ih =>
    intro j h
    rw [Nat.add_right_comm]
    cases j with
    | ex cs e loc hp k => exact sound_ex sumOk nosum ih h
    | tst cs e loc hp k => exact sound_tst ih h
    | args cs es loc hp k => exact sound_args ih h
    | prs cs ks es loc hp k => exact sound_prs ih h
    | sts cs ss loc hp k =>
      have h2 : @Bool.rec (fun _ => Prop) (step K (WpS K C T n) (.sts cs ss loc hp k)) (cs = scpOf (stAt 26) ∧ ss = tail2 ∧ T loc hp k) (isFor ss) := h
      cases e : isFor ss with
      | true =>
        rw [e] at h2
        obtain ⟨rfl, rfl, h3⟩ := h2
        exact ((hT loc hp k h3).ups n).up
      | false =>
        rw [e] at h2
        exact sound_sts ih h2
    | call g vs hp k =>
      cases g with
      | kref a =>
        have h : (match C a with | some T => T vs hp k | none => step K (WpS K C T n) (.call (.kref a) vs hp k)) := h
        cases e : C a with
        | some T' =>
          rw [e] at h
          exact ((hC a T' e vs hp k h).ups n).up
        | none =>
          rw [e] at h
          exact sound_call ih h
      | _ => exact sound_call ih h
end
noncomputable def rest7 : List Stmt := (bodOf (stAt 26)).drop 1
theorem pre_eq7 (P : Params) (ns : List Int) (T : Ts) (k : Fl → Loc → Hp → Prop) : WpS (Kx P) hk1 T 70 (.sts (scpOf (stAt 26)) rest7 locP [.list [.ref 1, .int 0], .ints ns, .inst 248 3, initO] k) =
    preP ns (fun c s w o => scpOf (stAt 26) = scpOf (stAt 26) ∧ tail2 = tail2 ∧ T [(S "sender", .ref 2), (S "box", .ref 0), (S "is_elder", .bool w.eld), (S "world", .ref 4)] (H5 c ns s w o [updO w.emp]) k) := by kernel_rfl
end Mine
end
section
namespace Mine
open PySem PySem.W PySem.Spec PySem.Calls PyProof.Rows
def endT (ns : List Int) : Ts := fun loc hp k => okLoc loc ∧ (∃ c s w o ts x r, Inv 0 0 c s w o ts x ∧ hp = H5 c ns s w o r) ∧ ∀ loc hp, k (.ret (.bool true)) loc hp
theorem tail2_eq : tail2 = [.For (.Name (S "turn") ⟨239, 8, 239, 12⟩) (.Call (.Name (S "range") ⟨239, 16, 239, 21⟩) [.Constant (.int 14) 0 ⟨239, 22, 239, 24⟩] [] ⟨239, 16, 239, 25⟩) loopBody [] ⟨239, 4, 263, 24⟩, .Return (some (.Constant (.bool true) 0 ⟨264, 11, 264, 15⟩)) ⟨264, 4, 264, 15⟩] := by kernel_rfl
theorem endT_ok {prog : Program} {w : World} {p : Program} {loose : List Str} {mean : ExcName → Option Value} {mg mb : Str → Option Value} (C : HkOk prog w (Kx w.params) p loose mean mg mb hk1 30) {ns : List Int} (hn : ns.length ≤ 56) (loc : Loc) (hp : Hp) (k : Fl → Loc → Hp → Prop) (h : endT ns loc hp k) :
    Snd prog w (Kx w.params) p loose mean mg mb 90 (.sts (scpOf (stAt 26)) tail2 loc hp k) := by
  intro f hcs ok m ρ tl os s Q X hQ
  obtain ⟨okl, ⟨c, sn, wl, o, ts, x, r, I, rfl⟩, hk⟩ := h
  rw [tail2_eq]
  have X' : At prog w f m ρ tl (H5 c ns sn wl o r) os loc0 s := ⟨X.1, X.2.1, loc0_LR okl X.2.2⟩
  refine wpAny_execs_cons (loop_ok C hcs ok hn I X' fun m' h' tk ρ' tl' hp' os' F' e' H' L' => ?_)
  refine wpAny_execs_cons (wpAny_Return_some (wpAny_Constant_bool ?_))
  exact hQ (.ret (.bool true)) loc0 hp' ρ' tl' os' h' tk m' (.ret (.bool true)) (hk _ _) e' F' H' L' ⟨_, rfl, rfl⟩
end Mine
end
section
namespace Mine
open PySem PySem.W PySem.Spec PySem.Calls PyProof.Rows
theorem body_eq : bodOf (stAt 26) = st0 ⟨233, 20, 233, 24⟩ ⟨233, 25, 233, 31⟩ ⟨233, 33, 233, 35⟩ ⟨233, 32, 233, 35⟩ ⟨233, 25, 233, 36⟩ ⟨233, 20, 233, 37⟩ ⟨233, 39, 233, 40⟩ ⟨233, 19, 233, 41⟩
  ⟨233, 4, 233, 7⟩ ⟨233, 9, 233, 15⟩ ⟨233, 4, 233, 15⟩ ⟨233, 18, 233, 55⟩ ⟨233, 4, 233, 55⟩ ⟨233, 43, 233, 48⟩ ⟨233, 49, 233, 53⟩ ⟨233, 43, 233, 54⟩ :: rest7 := by kernel_rfl
theorem hk1_ok {prog : Program} {w : World} {p : Program} {loose : List Str} {mean : ExcName → Option Value} {mg mb : Str → Option Value} : HkOk prog w (Kx w.params) p loose mean mg mb hk1 30 := by
  have nosum : nsIn (Kx w.params) mainGlobals (Str.ofString "sum") = some none := by kernel_rfl
  intro a T e vs hp k h
  unfold hk1 at e
  split at e
  · rename_i ea
    subst ea
    cases e
    exact sound sumOk nosum 30 _ (cw_ok w.params vs hp k h)
  · split at e
    · rename_i ea
      subst ea
      cases e
      exact sound sumOk nosum 30 _ (take_ok w.params vs hp k h)
    · cases e
theorem body_ok {prog : Program} {w : World} {p : Program} {loose : List Str} {mean : ExcName → Option Value} {mg mb : Str → Option Value} {f : Fm} (hcs : f.cs = scpOf (stAt 26)) (ok : FmOk (Kx w.params) p loose mean mg mb f 160) {m : Str → Option Value} {ns : List Int} {vs : List Value} {ax : Addr} {st : Shared} {Q : Flow → Shared → Prop}
    (F : Fr f.h₀ f.L st.heap m) (hm : m (Str.ofString "script") = some (.ref ax)) (hL : st.heap.IsList ax vs.toArray) (hi : IntsAre vs ns) (hz : ns.length ≤ 63)
    (hQ : ∀ m' h' tk, Fr f.h₀ f.L h' m' → Q (.ret (.bool true)) { st with heap := h', toks := tk }) :
    wpAny (model prog w) f.A (execs (bodOf (stAt 26)) f.env) Q NE st := by
  have nosum : nsIn (Kx w.params) mainGlobals (Str.ofString "sum") = some none := by kernel_rfl
  have hn : (ns.take 56).length ≤ 56 := List.length_take_le _ _
  rw [body_eq]
  refine wpAny_execs_cons (stmt0_ok hcs ⟨ok.B, ok.X, ok.T, ok.ck, by have := ok.d; omega, by have := ok.u; omega⟩ rfl F hm hL hi hz fun m' ρ tl os h' tk X => ?_)
  have W : WpS (Kx w.params) hk1 (endT (ns.take 56)) 70 (.sts (scpOf (stAt 26)) rest7 locP [.list [.ref 1, .int 0], .ints (ns.take 56), .inst 248 3, initO] (fun fl _ _ => fl = .ret (.bool true))) := by
    rw [pre_eq7]
    refine pre_in hn fun c s w o ts x I => ⟨rfl, rfl, ⟨rfl, rfl, rfl⟩, ⟨c, s, w, o, ts, x, _, I, rfl⟩, fun _ _ => rfl⟩
  refine soundS (fun a T e vs hp k h => (hk1_ok a T e vs hp k h).ups 60) (T := endT (ns.take 56)) (c := 90) ?_ nosum 70 _ W f hcs ok _ _ _ _ _ _ X ?_
  · exact fun loc hp k h => endT_ok hk1_ok hn loc hp k h
  · intro fl loc' hp' ρ' tl' os' h2 tk2 m2 fl' a b F2 H2 L2 r2
    subst a
    obtain ⟨v', rfl, r2⟩ := r2
    have r2 : v' = .bool true := r2
    subst r2
    exact hQ m2 h2 tk2 F2
end Mine
end
section
namespace Mine
open PySem PySem.W PySem.Spec PySem.Calls PyProof.Rows
noncomputable def y0 (P : Params) : Obj := ⟨(.type "dict"), none, (.dict [en P "__name__" 165 (.str (S "__main__") 164), en P "__doc__" 166 .none, en P "__package__" 167 .none, en P "__loader__" 168 (.builtin "__main__.__loader__#opaque"), en P "__spec__" 169 .none, en P "__annotations__" 170 (.ref 6), en P "__builtins__" 171 (.ref 4), en P "__file__" 173 (.str (S "/claim/cut.py") 172), en P "__cached__" 174 .none].toArray 9), [].toArray⟩
noncomputable def hp0 (P : Params) : Heap := ⟨Array.mk [z0 P, z1 P, z2 P, y0 P, z4 P, z5 P, z6 P, z7 P, z8 P, z9 P, z10 P, z11 P, z273 P, z13 P, z14 P], {}⟩
noncomputable def y1 (P : Params) : Obj := ⟨(.type "dict"), none, (.dict [en P "__name__" 165 (.str (S "quic.newreno") 194), en P "__doc__" 166 .none, en P "__package__" 167 .none, en P "__loader__" 168 (.builtin "__main__.__loader__#opaque"), en P "__spec__" 169 .none, en P "__annotations__" 170 (.ref 6), en P "__builtins__" 171 (.ref 4), en P "__file__" 173 (.str (S "/claim/cut.py") 172), en P "__cached__" 174 .none, en P "_wall" 193 (.ref 21), en P "INITIAL_PACKETS" 197 (.int 10 196), en P "INITIAL_OCTETS" 199 (.int 14720 198), en P "LEAST_PACKETS" 201 (.int 2 200), en P "LOSS_TOP" 203 (.int 1 202), en P "LOSS_BOTTOM" 205 (.int 2 204), en P "initial_window" 212 (.ref 28), en P "least_window" 219 (.ref 35)].toArray 17), [].toArray⟩
noncomputable def y2 (_ : Params) : Obj := ⟨.none, none, (.fields [(.int 1 0), (.int 0 0), (.ref 20), (.int 10 0), (.int 0 0), (.ref 27), (.int 12 0), (.int 0 0), (.ref 34)].toArray), [].toArray⟩
noncomputable def hp1 (P : Params) : Heap := ⟨Array.mk [z0 P, z1 P, z2 P, y1 P, z4 P, z5 P, z6 P, z7 P, z8 P, z9 P, z10 P, z11 P, y2 P, z13 P, z14 P, z15 P, z16 P, z17 P, z18 P, z19 P, z20 P, z21 P, z22 P, z23 P, z24 P, z25 P, z26 P, z27 P, z28 P, z29 P, z30 P, z31 P, z32 P, z33 P, z34 P, z35 P], {}⟩
noncomputable def y3 (P : Params) : Obj := ⟨(.type "dict"), none, (.dict [en P "__name__" 165 (.str (S "quic.newreno") 194), en P "__doc__" 166 .none, en P "__package__" 167 .none, en P "__loader__" 168 (.builtin "__main__.__loader__#opaque"), en P "__spec__" 169 .none, en P "__annotations__" 170 (.ref 6), en P "__builtins__" 171 (.ref 4), en P "__file__" 173 (.str (S "/claim/cut.py") 172), en P "__cached__" 174 .none, en P "_wall" 193 (.ref 21), en P "INITIAL_PACKETS" 197 (.int 10 196), en P "INITIAL_OCTETS" 199 (.int 14720 198), en P "LEAST_PACKETS" 201 (.int 2 200), en P "LOSS_TOP" 203 (.int 1 202), en P "LOSS_BOTTOM" 205 (.int 2 204), en P "initial_window" 212 (.ref 28), en P "least_window" 219 (.ref 35), en P "NewReno" 339 (.ref 122)].toArray 18), [].toArray⟩
noncomputable def y4 (_ : Params) : Obj := ⟨.none, none, (.fields [(.int 1 0), (.int 0 0), (.ref 20), (.int 10 0), (.int 0 0), (.ref 27), (.int 12 0), (.int 0 0), (.ref 34), (.int 14 0), (.int 0 0), (.ref 41)].toArray), [].toArray⟩
noncomputable def y5 (_ : Params) : Obj := ⟨(.type "builtin_function_or_method"), none, (.fields [(.builtin "type.__prepare__"), (.type "type")].toArray), [].toArray⟩
noncomputable def y6 (P : Params) : Obj := ⟨(.type "dict"), none, (.dict [en P "__module__" 227 (.str (S "quic.newreno") 194), en P "__qualname__" 229 (.str (S "NewReno") 228), en P "__firstlineno__" 231 (.int 14 230), en P "__init__" 239 (.ref 49), en P "may_send" 247 (.ref 56), en P "is_slow_start" 254 (.ref 63), en P "in_recovery" 262 (.ref 70), en P "on_sent" 270 (.ref 77), en P "on_discarded" 278 (.ref 84), en P "on_acked" 290 (.ref 91), en P "widen" 299 (.ref 98), en P "on_congestion" 308 (.ref 105), en P "on_lost" 318 (.ref 112), en P "on_persistent" 325 (.ref 119), en P "__static_attributes__" 332 (.ref 120)].toArray 15), [].toArray⟩
noncomputable def y7 (_ : Params) : Obj := ⟨.none, none, (.fields [(.int 16 0), (.int 4 0), (.ref 48), (.int 24 0), (.int 4 0), (.ref 55), (.int 27 0), (.int 4 0), (.ref 62), (.int 30 0), (.int 4 0), (.ref 69), (.int 33 0), (.int 4 0), (.ref 76), (.int 36 0), (.int 4 0), (.ref 83), (.int 39 0), (.int 4 0), (.ref 90), (.int 48 0), (.int 4 0), (.ref 97), (.int 54 0), (.int 4 0), (.ref 104), (.int 62 0), (.int 4 0), (.ref 111), (.int 67 0), (.int 4 0), (.ref 118)].toArray), [].toArray⟩
noncomputable def y8 (_ : Params) : Obj := ⟨(.type "code"), none, (.fields [(.str (S "NewReno") 222), (.str (S "NewReno") 223), (.str (S "/claim/cut.py") 224), (.int 14 0), (.int 0 0), (.int 0 0), (.int 0 0), (.int 0 0), (.ref 39), (.bool false), (.int 181 0), (.ref 40), .none, .none, .none, .none, (.int 225 0), (.int 14 0), (.str (S "/claim/cut.py") 226)].toArray), [].toArray⟩
noncomputable def y9 (_ : Params) : Obj := ⟨(.type "frame"), none, .plain, [(some (.ref 41)), (some (.ref 3)), (some (.ref 38)), none, (some (.str (S "quic.newreno") 194)), none, (some (.ref 0))].toArray⟩
noncomputable def y10 (_ : Params) : Obj := ⟨(.type "type"), none, (.cls ⟨(S "NewReno"), [(.type "object")], [(.ref 122), (.type "object")], 121, (S "NewReno"), true, [], [], false, none, false⟩), [none, none, (some (.str (S "NewReno") 220)), (some (.str (S "NewReno") 228)), (some (.builtin "object.__new__")), (some (.bool true))].toArray⟩
noncomputable def y11 (_ : Params) : Obj := ⟨(.type "super"), none, (.fields [(.ref 122), (.ref 122), (.ref 122)].toArray), [].toArray⟩
noncomputable def y12 (_ : Params) : Obj := ⟨(.type "builtin_function_or_method"), none, (.fields [(.builtin "object.__init_subclass__"), (.ref 122)].toArray), [].toArray⟩
noncomputable def hp2 (P : Params) : Heap := ⟨Array.mk [z0 P, z1 P, z2 P, y3 P, z4 P, z5 P, z6 P, z7 P, z8 P, z9 P, z10 P, z11 P, y4 P, z13 P, z14 P, z15 P, z16 P, z17 P, z18 P, z19 P, z20 P, z21 P, z22 P, z23 P, z24 P, z25 P, z26 P, z27 P, z28 P, z29 P, z30 P, z31 P, z32 P, z33 P, z34 P, z35 P, z272 P, y5 P, y6 P, z272 P, y7 P, y8 P, y9 P, z43 P, z44 P, z45 P, z46 P, z47 P, z48 P, z49 P, z50 P, z51 P, z52 P, z53 P, z54 P, z55 P, z56 P, z57 P, z58 P, z59 P, z60 P, z61 P, z62 P, z63 P, z64 P, z65 P, z66 P, z67 P, z68 P, z69 P, z70 P, z71 P, z72 P, z73 P, z74 P, z75 P, z76 P, z77 P, z78 P, z79 P, z80 P, z81 P, z82 P, z83 P, z84 P, z85 P, z86 P, z87 P, z88 P, z89 P, z90 P, z91 P, z92 P, z93 P, z94 P, z95 P, z96 P, z97 P, z98 P, z99 P, z100 P, z101 P, z102 P, z103 P, z104 P, z105 P, z106 P, z107 P, z108 P, z109 P, z110 P, z111 P, z112 P, z113 P, z114 P, z115 P, z116 P, z117 P, z118 P, z119 P, z120 P, z121 P, y10 P, z123 P, z124 P, y11 P, y12 P], {}⟩
noncomputable def y13 (P : Params) : Obj := ⟨(.type "dict"), none, (.dict [en P "__name__" 165 (.str (S "quic.cubic") 340), en P "__doc__" 166 .none, en P "__package__" 167 .none, en P "__loader__" 168 (.builtin "__main__.__loader__#opaque"), en P "__spec__" 169 .none, en P "__annotations__" 170 (.ref 6), en P "__builtins__" 171 (.ref 4), en P "__file__" 173 (.str (S "/claim/cut.py") 172), en P "__cached__" 174 .none, en P "_wall" 193 (.ref 21), en P "INITIAL_PACKETS" 197 (.int 10 196), en P "INITIAL_OCTETS" 199 (.int 14720 198), en P "LEAST_PACKETS" 201 (.int 2 200), en P "LOSS_TOP" 203 (.int 1 202), en P "LOSS_BOTTOM" 205 (.int 2 204), en P "initial_window" 212 (.ref 28), en P "least_window" 219 (.ref 35), en P "NewReno" 339 (.ref 122), en P "BETA_TOP" 343 (.int 7 342), en P "BETA_BOTTOM" 345 (.int 10 344), en P "C_TOP" 347 (.int 2 346), en P "C_BOTTOM" 349 (.int 5 348), en P "SECOND" 351 (.int 1000000 350), en P "FRIENDLY_TOP" 353 (.int 9 352), en P "FRIENDLY_BOTTOM" 355 (.int 17 354), en P "cube_root" 365 (.ref 133), en P "cubic_time" 374 (.ref 140), en P "cubic_window" 386 (.ref 147)].toArray 28), [].toArray⟩
noncomputable def y14 (_ : Params) : Obj := ⟨.none, none, (.fields [(.int 1 0), (.int 0 0), (.ref 20), (.int 10 0), (.int 0 0), (.ref 27), (.int 12 0), (.int 0 0), (.ref 34), (.int 14 0), (.int 0 0), (.ref 41), (.int 77 0), (.int 0 0), (.ref 132), (.int 88 0), (.int 0 0), (.ref 139), (.int 92 0), (.int 0 0), (.ref 146)].toArray), [].toArray⟩
noncomputable def hp3 (P : Params) : Heap := ⟨Array.mk [z0 P, z1 P, z2 P, y13 P, z4 P, z5 P, z6 P, z7 P, z8 P, z9 P, z10 P, z11 P, y14 P, z13 P, z14 P, z15 P, z16 P, z17 P, z18 P, z19 P, z20 P, z21 P, z22 P, z23 P, z24 P, z25 P, z26 P, z27 P, z28 P, z29 P, z30 P, z31 P, z32 P, z33 P, z34 P, z35 P, z272 P, y5 P, y6 P, z272 P, y7 P, y8 P, y9 P, z43 P, z44 P, z45 P, z46 P, z47 P, z48 P, z49 P, z50 P, z51 P, z52 P, z53 P, z54 P, z55 P, z56 P, z57 P, z58 P, z59 P, z60 P, z61 P, z62 P, z63 P, z64 P, z65 P, z66 P, z67 P, z68 P, z69 P, z70 P, z71 P, z72 P, z73 P, z74 P, z75 P, z76 P, z77 P, z78 P, z79 P, z80 P, z81 P, z82 P, z83 P, z84 P, z85 P, z86 P, z87 P, z88 P, z89 P, z90 P, z91 P, z92 P, z93 P, z94 P, z95 P, z96 P, z97 P, z98 P, z99 P, z100 P, z101 P, z102 P, z103 P, z104 P, z105 P, z106 P, z107 P, z108 P, z109 P, z110 P, z111 P, z112 P, z113 P, z114 P, z115 P, z116 P, z117 P, z118 P, z119 P, z120 P, z121 P, y10 P, z123 P, z124 P, y11 P, y12 P, z127 P, z128 P, z129 P, z130 P, z131 P, z132 P, z133 P, z134 P, z135 P, z136 P, z137 P, z138 P, z139 P, z140 P, z141 P, z142 P, z143 P, z144 P, z145 P, z146 P, z147 P], {}⟩
noncomputable def y15 (P : Params) : Obj := ⟨(.type "dict"), none, (.dict [en P "__name__" 165 (.str (S "quic.cubic") 340), en P "__doc__" 166 .none, en P "__package__" 167 .none, en P "__loader__" 168 (.builtin "__main__.__loader__#opaque"), en P "__spec__" 169 .none, en P "__annotations__" 170 (.ref 6), en P "__builtins__" 171 (.ref 4), en P "__file__" 173 (.str (S "/claim/cut.py") 172), en P "__cached__" 174 .none, en P "_wall" 193 (.ref 21), en P "INITIAL_PACKETS" 197 (.int 10 196), en P "INITIAL_OCTETS" 199 (.int 14720 198), en P "LEAST_PACKETS" 201 (.int 2 200), en P "LOSS_TOP" 203 (.int 1 202), en P "LOSS_BOTTOM" 205 (.int 2 204), en P "initial_window" 212 (.ref 28), en P "least_window" 219 (.ref 35), en P "NewReno" 339 (.ref 122), en P "BETA_TOP" 343 (.int 7 342), en P "BETA_BOTTOM" 345 (.int 10 344), en P "C_TOP" 347 (.int 2 346), en P "C_BOTTOM" 349 (.int 5 348), en P "SECOND" 351 (.int 1000000 350), en P "FRIENDLY_TOP" 353 (.int 9 352), en P "FRIENDLY_BOTTOM" 355 (.int 17 354), en P "cube_root" 365 (.ref 133), en P "cubic_time" 374 (.ref 140), en P "cubic_window" 386 (.ref 147), en P "Cubic" 531 (.ref 248)].toArray 29), [].toArray⟩
noncomputable def y16 (_ : Params) : Obj := ⟨.none, none, (.fields [(.int 1 0), (.int 0 0), (.ref 20), (.int 10 0), (.int 0 0), (.ref 27), (.int 12 0), (.int 0 0), (.ref 34), (.int 14 0), (.int 0 0), (.ref 41), (.int 77 0), (.int 0 0), (.ref 132), (.int 88 0), (.int 0 0), (.ref 139), (.int 92 0), (.int 0 0), (.ref 146), (.int 96 0), (.int 0 0), (.ref 153)].toArray), [].toArray⟩
noncomputable def y17 (P : Params) : Obj := ⟨(.type "dict"), none, (.dict [en P "__module__" 394 (.str (S "quic.cubic") 340), en P "__qualname__" 396 (.str (S "Cubic") 395), en P "__firstlineno__" 398 (.int 96 397), en P "__init__" 406 (.ref 161), en P "on_acked" 418 (.ref 168), en P "begin_growth" 426 (.ref 175), en P "pause_growth" 434 (.ref 182), en P "resume_growth" 442 (.ref 189), en P "note_empty" 450 (.ref 196), en P "leave_out_empty" 458 (.ref 203), en P "grow_friendly" 468 (.ref 210), en P "grow_cubic" 480 (.ref 217), en P "on_discarded" 488 (.ref 224), en P "on_lost" 498 (.ref 231), en P "on_congestion" 507 (.ref 238), en P "on_persistent" 514 (.ref 245), en P "__static_attributes__" 528 (.ref 246)].toArray 17), [].toArray⟩
noncomputable def y18 (_ : Params) : Obj := ⟨.none, none, (.fields [(.int 98 0), (.int 4 0), (.ref 160), (.int 110 0), (.int 4 0), (.ref 167), (.int 129 0), (.int 4 0), (.ref 174), (.int 136 0), (.int 4 0), (.ref 181), (.int 140 0), (.int 4 0), (.ref 188), (.int 145 0), (.int 4 0), (.ref 195), (.int 149 0), (.int 4 0), (.ref 202), (.int 155 0), (.int 4 0), (.ref 209), (.int 162 0), (.int 4 0), (.ref 216), (.int 173 0), (.int 4 0), (.ref 223), (.int 178 0), (.int 4 0), (.ref 230), (.int 184 0), (.int 4 0), (.ref 237), (.int 199 0), (.int 4 0), (.ref 244)].toArray), [].toArray⟩
noncomputable def y19 (_ : Params) : Obj := ⟨(.type "code"), none, (.fields [(.str (S "Cubic") 389), (.str (S "Cubic") 390), (.str (S "/claim/cut.py") 391), (.int 96 0), (.int 0 0), (.int 0 0), (.int 0 0), (.int 0 0), (.ref 151), (.bool false), (.int 181 0), (.ref 152), .none, .none, .none, .none, (.int 392 0), (.int 96 0), (.str (S "/claim/cut.py") 393)].toArray), [].toArray⟩
noncomputable def y20 (_ : Params) : Obj := ⟨(.type "frame"), none, .plain, [(some (.ref 153)), (some (.ref 3)), (some (.ref 150)), none, (some (.str (S "quic.cubic") 340)), none, (some (.ref 0))].toArray⟩
noncomputable def y21 (_ : Params) : Obj := ⟨(.type "super"), none, (.fields [(.ref 248), (.ref 248), (.ref 248)].toArray), [].toArray⟩
noncomputable def y22 (_ : Params) : Obj := ⟨(.type "builtin_function_or_method"), none, (.fields [(.builtin "object.__init_subclass__"), (.ref 248)].toArray), [].toArray⟩
noncomputable def hp4 (P : Params) : Heap := ⟨Array.mk [z0 P, z1 P, z2 P, y15 P, z4 P, z5 P, z6 P, z7 P, z8 P, z9 P, z10 P, z11 P, y16 P, z13 P, z14 P, z15 P, z16 P, z17 P, z18 P, z19 P, z20 P, z21 P, z22 P, z23 P, z24 P, z25 P, z26 P, z27 P, z28 P, z29 P, z30 P, z31 P, z32 P, z33 P, z34 P, z35 P, z272 P, y5 P, y6 P, z272 P, y7 P, y8 P, y9 P, z43 P, z44 P, z45 P, z46 P, z47 P, z48 P, z49 P, z50 P, z51 P, z52 P, z53 P, z54 P, z55 P, z56 P, z57 P, z58 P, z59 P, z60 P, z61 P, z62 P, z63 P, z64 P, z65 P, z66 P, z67 P, z68 P, z69 P, z70 P, z71 P, z72 P, z73 P, z74 P, z75 P, z76 P, z77 P, z78 P, z79 P, z80 P, z81 P, z82 P, z83 P, z84 P, z85 P, z86 P, z87 P, z88 P, z89 P, z90 P, z91 P, z92 P, z93 P, z94 P, z95 P, z96 P, z97 P, z98 P, z99 P, z100 P, z101 P, z102 P, z103 P, z104 P, z105 P, z106 P, z107 P, z108 P, z109 P, z110 P, z111 P, z112 P, z113 P, z114 P, z115 P, z116 P, z117 P, z118 P, z119 P, z120 P, z121 P, z122 P, z123 P, z124 P, y11 P, y12 P, z127 P, z128 P, z129 P, z130 P, z131 P, z132 P, z133 P, z134 P, z135 P, z136 P, z137 P, z138 P, z139 P, z140 P, z141 P, z142 P, z143 P, z144 P, z145 P, z146 P, z147 P, z148 P, y5 P, y17 P, z272 P, y18 P, y19 P, y20 P, z155 P, z156 P, z157 P, z158 P, z159 P, z160 P, z161 P, z162 P, z163 P, z164 P, z165 P, z166 P, z167 P, z168 P, z169 P, z170 P, z171 P, z172 P, z173 P, z174 P, z175 P, z176 P, z177 P, z178 P, z179 P, z180 P, z181 P, z182 P, z183 P, z184 P, z185 P, z186 P, z187 P, z188 P, z189 P, z190 P, z191 P, z192 P, z193 P, z194 P, z195 P, z196 P, z197 P, z198 P, z199 P, z200 P, z201 P, z202 P, z203 P, z204 P, z205 P, z206 P, z207 P, z208 P, z209 P, z210 P, z211 P, z212 P, z213 P, z214 P, z215 P, z216 P, z217 P, z218 P, z219 P, z220 P, z221 P, z222 P, z223 P, z224 P, z225 P, z226 P, z227 P, z228 P, z229 P, z230 P, z231 P, z232 P, z233 P, z234 P, z235 P, z236 P, z237 P, z238 P, z239 P, z240 P, z241 P, z242 P, z243 P, z244 P, z245 P, z246 P, z247 P, z248 P, y21 P, y22 P], {}⟩
noncomputable def hp5 (P : Params) : Heap := ⟨Array.mk [z0 P, z1 P, z2 P, z3 P, z4 P, z5 P, z6 P, z7 P, z8 P, z9 P, z10 P, z11 P, z12 P, z13 P, z14 P, z15 P, z16 P, z17 P, z18 P, z19 P, z20 P, z21 P, z22 P, z23 P, z24 P, z25 P, z26 P, z27 P, z28 P, z29 P, z30 P, z31 P, z32 P, z33 P, z34 P, z35 P, z272 P, y5 P, y6 P, z272 P, y7 P, y8 P, y9 P, z43 P, z44 P, z45 P, z46 P, z47 P, z48 P, z49 P, z50 P, z51 P, z52 P, z53 P, z54 P, z55 P, z56 P, z57 P, z58 P, z59 P, z60 P, z61 P, z62 P, z63 P, z64 P, z65 P, z66 P, z67 P, z68 P, z69 P, z70 P, z71 P, z72 P, z73 P, z74 P, z75 P, z76 P, z77 P, z78 P, z79 P, z80 P, z81 P, z82 P, z83 P, z84 P, z85 P, z86 P, z87 P, z88 P, z89 P, z90 P, z91 P, z92 P, z93 P, z94 P, z95 P, z96 P, z97 P, z98 P, z99 P, z100 P, z101 P, z102 P, z103 P, z104 P, z105 P, z106 P, z107 P, z108 P, z109 P, z110 P, z111 P, z112 P, z113 P, z114 P, z115 P, z116 P, z117 P, z118 P, z119 P, z120 P, z121 P, z122 P, z123 P, z124 P, y11 P, y12 P, z127 P, z128 P, z129 P, z130 P, z131 P, z132 P, z133 P, z134 P, z135 P, z136 P, z137 P, z138 P, z139 P, z140 P, z141 P, z142 P, z143 P, z144 P, z145 P, z146 P, z147 P, z148 P, y5 P, y17 P, z272 P, y18 P, y19 P, y20 P, z155 P, z156 P, z157 P, z158 P, z159 P, z160 P, z161 P, z162 P, z163 P, z164 P, z165 P, z166 P, z167 P, z168 P, z169 P, z170 P, z171 P, z172 P, z173 P, z174 P, z175 P, z176 P, z177 P, z178 P, z179 P, z180 P, z181 P, z182 P, z183 P, z184 P, z185 P, z186 P, z187 P, z188 P, z189 P, z190 P, z191 P, z192 P, z193 P, z194 P, z195 P, z196 P, z197 P, z198 P, z199 P, z200 P, z201 P, z202 P, z203 P, z204 P, z205 P, z206 P, z207 P, z208 P, z209 P, z210 P, z211 P, z212 P, z213 P, z214 P, z215 P, z216 P, z217 P, z218 P, z219 P, z220 P, z221 P, z222 P, z223 P, z224 P, z225 P, z226 P, z227 P, z228 P, z229 P, z230 P, z231 P, z232 P, z233 P, z234 P, z235 P, z236 P, z237 P, z238 P, z239 P, z240 P, z241 P, z242 P, z243 P, z244 P, z245 P, z246 P, z247 P, z248 P, y21 P, y22 P, z251 P, z252 P, z253 P, z254 P, z255 P, z256 P, z257 P, z258 P, z259 P, z260 P, z261 P, z262 P, z263 P, z264 P, z265 P, z266 P, z267 P, z268 P, z269 P, z270 P, z271 P, z272 P, z273 P, z274 P, z275 P, z276 P], {}⟩
end Mine
end
section
namespace Mine
open PySem PySem.W PySem.Spec PySem.Calls PyProof.Rows
noncomputable def bd : List Stmt := behindTheImports P0
noncomputable def bdAt (i n : Nat) : List Stmt := (bd.drop i).take n
noncomputable def env0 : Env := { scope := P0.main.scope, locals := mainNs, globals := mainNs, cells := [], code := .ref 13, frame := some 14 }
noncomputable def cd0 : Code := .body bd env0
abbrev fr0 : List Frame := [topFrame noPos]
abbrev ps1 : Pos := ⟨12, 0, 13, 35⟩
abbrev ps2 : Pos := ⟨14, 0, 68, 16⟩
abbrev ps3 : Pos := ⟨92, 0, 95, 29⟩
abbrev ps4 : Pos := ⟨96, 0, 200, 16⟩
abbrev ps5 : Pos := ⟨232, 0, 264, 15⟩
abbrev shAt (H : Params → Heap) (n : Nat) (w : World) (os : OsState) : Shared := ⟨H w.params, Array.mk [], {}, n, os⟩
noncomputable abbrev sh00 (w : World) (os : OsState) : Shared := ⟨boot_heap w.params, Array.mk [], boot_drawn, boot_toks, os⟩
abbrev an0 : Option Value := some (.ref 6)
section
variable (w : World) (os : OsState)
set_option maxHeartbeats 0
theorem run_pre : topGo treeTable P0 w 11 an0 12 (sh00 w os) (topStub P0) = some (shAt hp0 187 w os, ⟨denote treeTable cd0, cd0, noPos, fr0⟩) := by kernel_rfl
theorem run_blk : segRun treeTable P0 w 11 an0 1 1 (shAt hp0 187 w os) (blockOf bd env0 cd0 noPos fr0) = some (.next, shAt hp0 187 w os, cd0, noPos) := by kernel_rfl
theorem run_1 : segRun treeTable P0 w 11 an0 1 142 (shAt hp0 187 w os) (piecesOf (bdAt 0 9) env0 cd0 noPos fr0) = some (.next, shAt hp1 220 w os, cd0, ps1) := by kernel_rfl
theorem run_2 : segRun treeTable P0 w 11 an0 1 554 (shAt hp1 220 w os) (piecesOf (bdAt 9 1) env0 cd0 ps1 fr0) = some (.next, shAt hp2 340 w os, cd0, ps2) := by kernel_rfl
theorem run_3 : segRun treeTable P0 w 11 an0 1 170 (shAt hp2 340 w os) (piecesOf (bdAt 10 11) env0 cd0 ps2 fr0) = some (.next, shAt hp3 387 w os, cd0, ps3) := by kernel_rfl
theorem run_4 : segRun treeTable P0 w 11 an0 1 654 (shAt hp3 387 w os) (piecesOf (bdAt 21 1) env0 cd0 ps3 fr0) = some (.next, shAt hp4 532 w os, cd0, ps4) := by kernel_rfl
theorem run_5 : segRun treeTable P0 w 11 an0 1 134 (shAt hp4 532 w os) (piecesOf (bdAt 22 5) env0 cd0 ps4 fr0) = some (.next, shAt hp5 572 w os, cd0, ps5) := by kernel_rfl
theorem run_fin : topRun treeTable P0 w 11 an0 2 (shAt hp5 572 w os) ⟨doneF .next, cd0, ps5, fr0⟩ = some (shAt hp5 572 w os) := by kernel_rfl
end
end Mine
end
section
namespace Mine
open PySem PySem.W PySem.Spec PySem.Calls PyProof.Rows
noncomputable def qv : Program := { P0 with main := { P0.main with body := ((P0.main.body.eraseIdx 22).eraseIdx 10).eraseIdx 1 } }
theorem e_open : opening P0 = plainProg P0.main.scope.names := by kernel_rfl
theorem e_fence : ∀ s, fenceModules? P0 s = some s := fun s => by kernel_rfl
noncomputable abbrev H0 : Hook := kHook Kx kAs (fun _ => by kernel_rfl)
noncomputable abbrev Xt0 : Shared → Bool := fun s => xlAt qv [] s && recOk (RowW.records R0.toRowW) s
theorem bd_eq : behindTheImports P0 = bdAt 0 9 ++ (bdAt 9 1 ++ (bdAt 10 11 ++ (bdAt 21 1 ++ (bdAt 22 5 ++ [])))) := by kernel_rfl
theorem run_all (w : World) (os : OsState) : topRun treeTable P0 w 11 an0 (12 + (1 + (142 + (554 + (170 + (654 + (134 + 2))))))) (sh00 w os) (topStub P0) = some (shAt hp5 572 w os) := by
  refine go_top (run_pre w os) (piece_block (run_blk w os) ?_)
  show topRun _ _ _ _ _ _ _ (restOf (behindTheImports P0) _ _ _ _) = _
  rw [bd_eq]
  exact piece_app (run_1 w os) (piece_app (run_2 w os) (piece_app (run_3 w os) (piece_app (run_4 w os) (piece_app (run_5 w os) (piece_nil (run_fin w os))))))
theorem size0 (w : World) : ((boot_heap w.params).isNs mainGlobals && (Array.mk [] : Array GenState).size == 0, (boot_heap w.params).objs.size, (boot_heap w.params).nsMap mainGlobals "__annotations__") = (true, 11, an0) := by kernel_rfl
theorem look_1 (w : World) (os : OsState) : (staticsOk (importedModules P0.main.body) (boot_heap w.params) (hp5 w.params) && namesBound P0 (hp5 w.params) && gensDone (shAt hp5 572 w os) && laidKept (boot_heap w.params) (hp5 w.params)) = true := by kernel_rfl
theorem look_2 (w : World) (os : OsState) : openSeen qv [] (importedModules P0.main.body) Xt0 true (shAt hp5 572 w os) = openGood qv [] := by kernel_rfl
theorem look_3 (w : World) (os : OsState) : H0.obs (shAt hp5 572 w os) = H0.val w := by kernel_rfl
theorem left0 : LeftO P0 qv [] Xt0 H0.obs H0.val 3424 :=
  LeftO.of_pieces (H₀ := boot_heap) (H₁ := hp5) (gs₀ := Array.mk []) (gs₁ := Array.mk []) (d₀ := boot_drawn) (d₁ := {}) (k₀ := boot_toks) (k₁ := 572) (m₀ := 11) (ann := an0) (M := 12 + (1 + (142 + (554 + (170 + (654 + (134 + 2)))))))
    (boot_open e_open rfl e_fence) size0 run_all rfl fun w => funext fun os => Prod.ext (look_1 w os) (Prod.ext (look_2 w os) (look_3 w os))
end Mine
end
section
namespace Mine
open PySem PySem.W PySem.Spec PySem.Calls PyProof.Rows
noncomputable def posOf (s : Stmt) : Pos := match s with | .FunctionDef _ _ _ _ _ _ _ _ _ p => p | _ => noPos
noncomputable def lawD : DefRec := ⟨S "law", prmOf (stAt 26), bodOf (stAt 26), scpOf (stAt 26), posOf (stAt 26)⟩
theorem lawD_ok : defOf qv R0.name = some (lawD, []) := by kernel_rfl
abbrev TheWalk : Prop := WalkO qv [] (XL qv []) H0.says R0.toRowW lawD [] fun f vs => PySem.call f vs
theorem walk0 : TheWalk := by
  intro w s₀ s₁ mg mb G Y fa o pm cd doc dV kV ho hd hcd hD hmg hg args vals as hpre hlay hrd hwl hlo
  have KX := kIn_of Y
  have T := G.T
  wrow_args hpre hlay hrd hwl hlo
  rename_i hL _ _ _ hi _ hc _
  refine enter_call ?_
  refine codeAny_mono ?_ (fun _ _ g => GoodW.toG g)
  have e1 : dV = .none := by
    rcases hD.pos with ⟨_, h⟩ | ⟨h, _⟩
    · exact h
    · exact absurd (show lawD.params.defaults = [] by kernel_rfl) h
  have e2 : kV = .none := by
    rcases hD.kw with ⟨_, h⟩ | ⟨h, _⟩
    · exact h
    · exact absurd rfl h
  subst e1; subst e2
  refine call_fullW_ret (binds := [(S "script", _)]) (by decide +kernel) ho hd T.nolimit hcd (BindsTo.of_eq rfl) ?_ (fun h₁ F => ?_) (by kernel_rfl) (by kernel_rfl) (by kernel_rfl) ?_
  · intro x hx
    cases hx with
    | head => kernel_rfl
    | tail _ h => cases h
  · have hk : lawD.scope.kind = .function := by kernel_rfl
    let f : Fm := { dp := callerA.depth + 1, un := callerA.units + 3, gd := callerA.guards, cn := lawD.name, cs := lawD.scope, L := s₁.heap.objs.size, a := fa, ccd := cd, outer := [], A₀ := callerA, base := s₁.heap, h₀ := s₁.heap }
    have ok : FmOk (Kx w.params) qv (looseW qv []) (ExcName.means s₀.heap) mg mb f 160 := ⟨below_caller _, KX, T, hk, (by show (302 : Nat) + 160 < recursionLimit; decide +kernel), (by show (7 : Nat) + 8 * 160 + 64 < cLine; decide +kernel)⟩
    refine body_ok (f := f) rfl ok F rfl (by obtain ⟨o', h1, h2, h3⟩ := hL; exact ⟨o', F.keep _ _ h1, h2, h3⟩) hi (by omega) fun m' h' tk F' => ?_
    refine goodW_bool F' hg (fun _ => ?_) ?_
    · kernel_rfl
    · kernel_rfl
  · exact fun x hx => by
      have h : (lawD.scope.names.all fun x => x.2 != .cell) = true := by kernel_rfl
      exact bne_iff_ne.mp (List.all_eq_true.mp h x hx)
end Mine
end
namespace Mine
open PySem PySem.W PySem.Spec PySem.Calls PyProof.Rows
set_option maxHeartbeats 0 in
theorem law_said : PySem.Challenge.rw_rg0251_01.wellSaid = true := by
  unfold OpenLaw.wellSaid OpenRow.wellSaid OpenRow.partSaid looksOpen
  repeat' with_reducible refine look_both ?_ ?_
  all_goals decide +kernel
theorem looks0 : (chainsOk qv && opensWell R0.prog && (frees R0.toRowW && R0.within.isEmpty)) = true := by kernel_rfl
theorem bare0 : R0.prog.bare := ⟨rfl, rfl, rfl, rfl, rfl, by kernel_rfl⟩
theorem lawD_def : P0.theDef R0.name = some (lawD.params, lawD.body, lawD.scope) := by kernel_rfl
theorem lawD_kw : kwWritten? lawD.params.kwonlyargs lawD.params.kw_defaults = some [] := by kernel_rfl
theorem writes0 : (!R0.writes || R0.records.isEmpty) = true := by kernel_rfl
end Mine
open PySem PySem.W PySem.Spec PySem.Calls PyProof.Rows Mine
theorem PySem.Challenge.cw_rg0251_01_holds : PySem.Challenge.rw_rg0251_01.Holds := by
  refine holds_law law_said fun said => ?_
  refine holds_open (q := qv) (loose := []) (Xt := Xt0) (XP := XL qv []) (Yf := H0.obs) (Ya := H0.val) (YP := H0.says) (N := 3424) left0 H0.of H0.keeps (fun s e => xl_of s (Bool.and_eq_true_iff.mp e).1) XL.keeps
    lawD_ok lawD_def lawD_kw (fun s e => recFacts_of (Bool.and_eq_true_iff.mp e).2) writes0 said looks0 bare0 ?_ walk0
  w_witness2
