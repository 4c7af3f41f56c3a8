import PyProof.Rows.All
import Wide.All
import OpenK.AllK
import Wide.FinOn
import PySem.Challenge.RW_qd0070_01
open PySem PySem.W PyProof.Rows
set_option Elab.async false
set_option maxRecDepth 100000
set_option maxHeartbeats 0
set_option linter.unusedVariables false
set_option compiler.extract_closed false
namespace Mine
section
open BT PyData
noncomputable abbrev ee (P : Params) (s : String) (n : Nat) (v : Value) : DictEntry := ⟨keyHash P s, .str s n, v⟩
noncomputable abbrev PW : Program := PySem.Challenge.pw_qd0070_01
noncomputable def sA (i : Nat) : Stmt := (PW.main.body[i]?).getD (.Pass ⟨0, 0, 0, 0⟩)
noncomputable def sB (i j : Nat) : Stmt := match sA i with
  | .ClassDef _ _ _ b _ _ _ _ _ _ _ => (b[j]?).getD (.Pass ⟨0, 0, 0, 0⟩)
  | s => s
noncomputable def dP : Stmt → Arguments
  | .FunctionDef _ a _ _ _ _ _ _ _ _ => a
  | _ => default
noncomputable def dB : Stmt → FuncBody
  | .FunctionDef _ _ b _ _ _ _ _ _ _ => .stmts b
  | _ => default
noncomputable def dS : Stmt → Scope
  | .FunctionDef _ _ _ _ _ _ s _ _ _ => s
  | _ => default
noncomputable def b0 (P : Params) : Obj := ⟨.type "dict", none, .dict #[ee P "__name__" 1 (.str "builtins" 160), ee P "__doc__" 2 (.builtin "builtins.__doc__:str#opaque"), ee P "__package__" 3 (.builtin "builtins.__package__:str#opaque"), ee P "__loader__" 4 (.builtin "builtins.__loader__:shared#opaque"), ee P "__spec__" 5 (.builtin "builtins.__spec__#opaque"), ee P "__build_class__" 6 (.builtin "__build_class__"), ee P "__import__" 7 (.builtin "__import__"), ee P "abs" 8 (.builtin "abs"), ee P "all" 9 (.builtin "all"), ee P "any" 10 (.builtin "any"), ee P "ascii" 11 (.builtin "ascii"), ee P "bin" 12 (.builtin "bin"), ee P "breakpoint" 13 (.builtin "breakpoint"), ee P "callable" 14 (.builtin "callable"), ee P "chr" 15 (.builtin "chr"), ee P "compile" 16 (.builtin "compile"), ee P "delattr" 17 (.builtin "delattr"), ee P "dir" 18 (.builtin "dir"), ee P "divmod" 19 (.builtin "divmod"), ee P "eval" 20 (.builtin "eval"), ee P "exec" 21 (.builtin "exec"), ee P "format" 22 (.builtin "format"), ee P "getattr" 23 (.builtin "getattr"), ee P "globals" 24 (.builtin "globals"), ee P "hasattr" 25 (.builtin "hasattr"), ee P "hash" 26 (.builtin "hash"), ee P "hex" 27 (.builtin "hex"), ee P "id" 28 (.builtin "id"), ee P "input" 29 (.builtin "input"), ee P "isinstance" 30 (.builtin "isinstance"), ee P "issubclass" 31 (.builtin "issubclass"), ee P "iter" 32 (.builtin "iter"), ee P "aiter" 33 (.builtin "aiter"), ee P "len" 34 (.builtin "len"), ee P "locals" 35 (.builtin "locals"), ee P "max" 36 (.builtin "max"), ee P "min" 37 (.builtin "min"), ee P "next" 38 (.builtin "next"), ee P "anext" 39 (.builtin "anext"), ee P "oct" 40 (.builtin "oct"), ee P "ord" 41 (.builtin "ord"), ee P "pow" 42 (.builtin "pow"), ee P "print" 43 (.builtin "print"), ee P "repr" 44 (.builtin "repr"), ee P "round" 45 (.builtin "round"), ee P "setattr" 46 (.builtin "setattr"), ee P "sorted" 47 (.builtin "sorted"), ee P "sum" 48 (.builtin "sum"), ee P "vars" 49 (.builtin "vars"), ee P "None" 50 .none, ee P "Ellipsis" 51 .ellipsis, ee P "NotImplemented" 52 .notImplemented, ee P "False" 53 (.bool false), ee P "True" 54 (.bool true), ee P "bool" 55 (.type "bool"), ee P "memoryview" 56 (.type "memoryview"), ee P "bytearray" 57 (.type "bytearray"), ee P "bytes" 58 (.type "bytes"), ee P "classmethod" 59 (.type "classmethod"), ee P "complex" 60 (.type "complex"), ee P "dict" 61 (.type "dict"), ee P "enumerate" 62 (.type "enumerate"), ee P "filter" 63 (.type "filter"), ee P "float" 64 (.type "float"), ee P "frozenset" 65 (.type "frozenset"), ee P "property" 66 (.type "property"), ee P "int" 67 (.type "int"), ee P "list" 68 (.type "list"), ee P "map" 69 (.type "map"), ee P "object" 70 (.type "object"), ee P "range" 71 (.type "range"), ee P "reversed" 72 (.type "reversed"), ee P "set" 73 (.type "set"), ee P "slice" 74 (.type "slice"), ee P "staticmethod" 75 (.type "staticmethod"), ee P "str" 76 (.type "str"), ee P "super" 77 (.type "super"), ee P "tuple" 78 (.type "tuple"), ee P "type" 79 (.type "type"), ee P "zip" 80 (.type "zip"), ee P "__debug__" 81 (.bool true), ee P "BaseException" 82 (.type "BaseException"), ee P "BaseExceptionGroup" 83 (.type "BaseExceptionGroup"), ee P "Exception" 84 (.type "Exception"), ee P "GeneratorExit" 85 (.type "GeneratorExit"), ee P "KeyboardInterrupt" 86 (.type "KeyboardInterrupt"), ee P "SystemExit" 87 (.type "SystemExit"), ee P "ArithmeticError" 88 (.type "ArithmeticError"), ee P "AssertionError" 89 (.type "AssertionError"), ee P "AttributeError" 90 (.type "AttributeError"), ee P "BufferError" 91 (.type "BufferError"), ee P "EOFError" 92 (.type "EOFError"), ee P "ImportError" 93 (.type "ImportError"), ee P "LookupError" 94 (.type "LookupError"), ee P "MemoryError" 95 (.type "MemoryError"), ee P "NameError" 96 (.type "NameError"), ee P "OSError" 97 (.type "OSError"), ee P "ReferenceError" 98 (.type "ReferenceError"), ee P "RuntimeError" 99 (.type "RuntimeError"), ee P "StopAsyncIteration" 100 (.type "StopAsyncIteration"), ee P "StopIteration" 101 (.type "StopIteration"), ee P "SyntaxError" 102 (.type "SyntaxError"), ee P "SystemError" 103 (.type "SystemError"), ee P "TypeError" 104 (.type "TypeError"), ee P "ValueError" 105 (.type "ValueError"), ee P "Warning" 106 (.type "Warning"), ee P "FloatingPointError" 107 (.type "FloatingPointError"), ee P "OverflowError" 108 (.type "OverflowError"), ee P "ZeroDivisionError" 109 (.type "ZeroDivisionError"), ee P "BytesWarning" 110 (.type "BytesWarning"), ee P "DeprecationWarning" 111 (.type "DeprecationWarning"), ee P "EncodingWarning" 112 (.type "EncodingWarning"), ee P "FutureWarning" 113 (.type "FutureWarning"), ee P "ImportWarning" 114 (.type "ImportWarning"), ee P "PendingDeprecationWarning" 115 (.type "PendingDeprecationWarning"), ee P "ResourceWarning" 116 (.type "ResourceWarning"), ee P "RuntimeWarning" 117 (.type "RuntimeWarning"), ee P "SyntaxWarning" 118 (.type "SyntaxWarning"), ee P "UnicodeWarning" 119 (.type "UnicodeWarning"), ee P "UserWarning" 120 (.type "UserWarning"), ee P "BlockingIOError" 121 (.type "BlockingIOError"), ee P "ChildProcessError" 122 (.type "ChildProcessError"), ee P "ConnectionError" 123 (.type "ConnectionError"), ee P "FileExistsError" 124 (.type "FileExistsError"), ee P "FileNotFoundError" 125 (.type "FileNotFoundError"), ee P "InterruptedError" 126 (.type "InterruptedError"), ee P "IsADirectoryError" 127 (.type "IsADirectoryError"), ee P "NotADirectoryError" 128 (.type "NotADirectoryError"), ee P "PermissionError" 129 (.type "PermissionError"), ee P "ProcessLookupError" 130 (.type "ProcessLookupError"), ee P "TimeoutError" 131 (.type "TimeoutError"), ee P "IndentationError" 132 (.type "IndentationError"), ee P "_IncompleteInputError" 133 (.type "_IncompleteInputError"), ee P "IndexError" 134 (.type "IndexError"), ee P "KeyError" 135 (.type "KeyError"), ee P "ModuleNotFoundError" 136 (.type "ModuleNotFoundError"), ee P "NotImplementedError" 137 (.type "NotImplementedError"), ee P "PythonFinalizationError" 138 (.type "PythonFinalizationError"), ee P "RecursionError" 139 (.type "RecursionError"), ee P "UnboundLocalError" 140 (.type "UnboundLocalError"), ee P "UnicodeError" 141 (.type "UnicodeError"), ee P "BrokenPipeError" 142 (.type "BrokenPipeError"), ee P "ConnectionAbortedError" 143 (.type "ConnectionAbortedError"), ee P "ConnectionRefusedError" 144 (.type "ConnectionRefusedError"), ee P "ConnectionResetError" 145 (.type "ConnectionResetError"), ee P "TabError" 146 (.type "TabError"), ee P "UnicodeDecodeError" 147 (.type "UnicodeDecodeError"), ee P "UnicodeEncodeError" 148 (.type "UnicodeEncodeError"), ee P "UnicodeTranslateError" 149 (.type "UnicodeTranslateError"), ee P "ExceptionGroup" 150 (.type "ExceptionGroup"), ee P "EnvironmentError" 151 (.type "OSError"), ee P "IOError" 152 (.type "OSError"), ee P "open" 153 (.builtin "open"), ee P "quit" 154 (.builtin "builtins.quit#opaque"), ee P "exit" 155 (.builtin "builtins.exit#opaque"), ee P "copyright" 156 (.builtin "builtins.copyright#opaque"), ee P "credits" 157 (.builtin "builtins.credits#opaque"), ee P "license" 158 (.builtin "builtins.license#opaque"), ee P "help" 159 (.builtin "builtins.help#opaque")] 159, #[]⟩
noncomputable def b1 (P : Params) : Obj := ⟨.type "dict", none, .dict #[ee P "builtins" 162 (.ref 4), ee P "__main__" 163 (.ref 5)] 2, #[]⟩
noncomputable def b2 (P : Params) : Obj := ⟨.none, none, .dict #[] 0, #[]⟩
noncomputable def b3 (P : Params) : Obj := ⟨.type "dict", none, .dict #[ee P "__name__" 165 (.str "__main__" 164), ee P "__doc__" 166 .none, ee P "__package__" 167 .none, ee P "__loader__" 168 (.builtin "__main__.__loader__#opaque"), ee P "__spec__" 169 .none, ee P "__annotations__" 170 (.ref 6), ee P "__builtins__" 171 (.ref 4), ee P "__file__" 173 (.str "/claim/cut.py" 172), ee P "__cached__" 174 .none] 9, #[]⟩
noncomputable def b4 (P : Params) : Obj := ⟨.type "module", (some 0), .plain, #[]⟩
noncomputable def b5 (P : Params) : Obj := ⟨.type "module", (some 3), .plain, #[]⟩
noncomputable def b6 (P : Params) : Obj := ⟨.type "dict", none, .dict #[] 0, #[]⟩
noncomputable def b7 (P : Params) : Obj := ⟨.type "tuple", none, .seq #[] 0, #[]⟩
noncomputable def b8 (P : Params) : Obj := ⟨.none, none, .fields #[], #[]⟩
noncomputable def b9 (P : Params) : Obj := ⟨.type "code", none, .fields #[.str "<module>" 176, .str "<module>" 177, .str "/claim/cut.py" 178, .int 1 0, .int 0 0, .int 0 0, .int 0 0, .int 0 0, .ref 7, .bool false, .int 175 0, .ref 8, .none, .none, .none, .none, .int 179 0, .int 1 0, .str "/claim/cut.py" 180], #[]⟩
noncomputable def b10 (P : Params) : Obj := ⟨.type "frame", none, .plain, #[some (.ref 9), some (.ref 3), some (.ref 3), none, some (.str "__main__" 164), none, some (.ref 0)]⟩
noncomputable def b13 (P : Params) : Obj := ⟨.type "code", none, .fields #[.str "<module>" 182, .str "<module>" 183, .str "/claim/cut.py" 184, .int 1 0, .int 0 0, .int 0 0, .int 0 0, .int 0 0, .ref 11, .bool false, .int 181 0, .ref 12, .none, .none, .none, .none, .int 185 0, .int 1 0, .str "/claim/cut.py" 186], #[]⟩
noncomputable def b14 (P : Params) : Obj := ⟨.type "frame", none, .plain, #[some (.ref 13), some (.ref 3), some (.ref 3), none, some (.str "__main__" 164), none, some (.ref 0)]⟩
noncomputable def b2x1 (P : Params) : Obj := ⟨.none, none, .dict #[ee P "type.__subclasses__.Exception.0" 282 (.int 81 0), ee P "type.__subclasses__.Exception.n" 283 (.int 1 0)] 2, #[]⟩
noncomputable def b3x1 (P : Params) : Obj := ⟨.type "dict", none, .dict #[ee P "__name__" 165 (.str "grammarmill.source" 194), ee P "__doc__" 166 .none, ee P "__package__" 167 .none, ee P "__loader__" 168 (.builtin "__main__.__loader__#opaque"), ee P "__spec__" 169 .none, ee P "__annotations__" 170 (.ref 6), ee P "__builtins__" 171 (.ref 4), ee P "__file__" 173 (.str "/claim/cut.py" 172), ee P "__cached__" 174 .none, ee P "_wall" 193 (.ref 21), ee P "Position" 235 (.ref 45), ee P "position_of" 247 (.ref 56), ee P "ToolError" 285 (.ref 81), ee P "TableError" 301 (.ref 94), ee P "ScanError" 317 (.ref 106), ee P "Token" 366 (.ref 140), ee P "end_token" 373 (.ref 151)] 17, #[]⟩
noncomputable def b12x1 (P : Params) : Obj := ⟨.none, none, .fields #[.int 1 0, .int 0 0, .ref 20, .int 5 0, .int 0 0, .ref 27, .int 14 0, .int 0 0, .ref 55, .int 23 0, .int 0 0, .ref 62, .int 34 0, .int 0 0, .ref 90, .int 36 0, .int 0 0, .ref 102, .int 38 0, .int 0 0, .ref 114, .int 51 0, .int 0 0, .ref 150], #[]⟩
noncomputable def b17 (P : Params) : Obj := ⟨.type "tuple", none, .seq #[.str "k" 190] 0, #[]⟩
noncomputable def b19 (P : Params) : Obj := ⟨.none, none, .func ⟨"_wall", "_wall", dP (sA 0), dB (sA 0), dS (sA 0), 0, [], .none, .none, .none, .none, none, .none, .none, 0⟩, #[]⟩
noncomputable def b20 (P : Params) : Obj := ⟨.type "code", none, .fields #[.str "_wall" 187, .str "_wall" 188, .str "/claim/cut.py" 189, .int 1 0, .int 1 0, .int 0 0, .int 0 0, .int 3 0, .ref 15, .bool true, .int 181 0, .ref 16, .none, .ref 17, .ref 18, .ref 19, .int 191 0, .int 1 0, .str "/claim/cut.py" 192], #[]⟩
noncomputable def b21 (P : Params) : Obj := ⟨.type "function", none, .func ⟨"_wall", "_wall", dP (sA 0), dB (sA 0), dS (sA 0), 3, [], .none, .none, .none, .str "__main__" 164, none, .ref 20, .none, 0⟩, #[]⟩
noncomputable def b23 (P : Params) : Obj := ⟨.type "builtin_function_or_method", none, .fields #[.builtin "type.__prepare__", .type "type"], #[]⟩
noncomputable def b24 (P : Params) : Obj := ⟨.type "dict", none, .dict #[ee P "__module__" 203 (.str "grammarmill.source" 194), ee P "__qualname__" 205 (.str "Position" 204), ee P "__firstlineno__" 207 (.int 5 206), ee P "__init__" 217 (.ref 35), ee P "told" 224 (.ref 42), ee P "__static_attributes__" 228 (.ref 43)] 6, #[]⟩
noncomputable def b26 (P : Params) : Obj := ⟨.none, none, .fields #[.int 7 0, .int 4 0, .ref 34, .int 12 0, .int 4 0, .ref 41], #[]⟩
noncomputable def b27 (P : Params) : Obj := ⟨.type "code", none, .fields #[.str "Position" 198, .str "Position" 199, .str "/claim/cut.py" 200, .int 5 0, .int 0 0, .int 0 0, .int 0 0, .int 0 0, .ref 25, .bool false, .int 181 0, .ref 26, .none, .none, .none, .none, .int 201 0, .int 5 0, .str "/claim/cut.py" 202], #[]⟩
noncomputable def b28 (P : Params) : Obj := ⟨.type "frame", none, .plain, #[some (.ref 27), some (.ref 3), some (.ref 24), none, some (.str "grammarmill.source" 194), none, some (.ref 0)]⟩
noncomputable def b31 (P : Params) : Obj := ⟨.type "tuple", none, .seq #[.str "self" 211, .str "offset" 212, .str "line" 213, .str "column" 214] 0, #[]⟩
noncomputable def b33 (P : Params) : Obj := ⟨.none, none, .func ⟨"__init__", "Position.__init__", dP (sB 2 0), dB (sB 2 0), dS (sB 2 0), 0, [], .none, .none, .none, .none, none, .none, .none, 0⟩, #[]⟩
noncomputable def b34 (P : Params) : Obj := ⟨.type "code", none, .fields #[.str "__init__" 208, .str "Position.__init__" 209, .str "/claim/cut.py" 210, .int 7 0, .int 4 0, .int 0 0, .int 0 0, .int 3 0, .ref 29, .bool true, .int 181 0, .ref 30, .none, .ref 31, .ref 32, .ref 33, .int 215 0, .int 7 0, .str "/claim/cut.py" 216], #[]⟩
noncomputable def b35 (P : Params) : Obj := ⟨.type "function", none, .func ⟨"__init__", "Position.__init__", dP (sB 2 0), dB (sB 2 0), dS (sB 2 0), 3, [], .none, .none, .none, .str "grammarmill.source" 194, none, .ref 34, .none, 0⟩, #[]⟩
noncomputable def b38 (P : Params) : Obj := ⟨.type "tuple", none, .seq #[.str "self" 221] 0, #[]⟩
noncomputable def b40 (P : Params) : Obj := ⟨.none, none, .func ⟨"told", "Position.told", dP (sB 2 1), dB (sB 2 1), dS (sB 2 1), 0, [], .none, .none, .none, .none, none, .none, .none, 0⟩, #[]⟩
noncomputable def b41 (P : Params) : Obj := ⟨.type "code", none, .fields #[.str "told" 218, .str "Position.told" 219, .str "/claim/cut.py" 220, .int 12 0, .int 1 0, .int 0 0, .int 0 0, .int 3 0, .ref 36, .bool true, .int 181 0, .ref 37, .none, .ref 38, .ref 39, .ref 40, .int 222 0, .int 12 0, .str "/claim/cut.py" 223], #[]⟩
noncomputable def b42 (P : Params) : Obj := ⟨.type "function", none, .func ⟨"told", "Position.told", dP (sB 2 1), dB (sB 2 1), dS (sB 2 1), 3, [], .none, .none, .none, .str "grammarmill.source" 194, none, .ref 41, .none, 0⟩, #[]⟩
noncomputable def b43 (P : Params) : Obj := ⟨.type "tuple", none, .seq #[.str "column" 225, .str "line" 226, .str "offset" 227] 0, #[]⟩
noncomputable def b44 (P : Params) : Obj := ⟨.type "dict", none, .dict #[ee P "__module__" 203 (.str "grammarmill.source" 194), ee P "__firstlineno__" 207 (.int 5 206), ee P "__init__" 217 (.ref 35), ee P "told" 224 (.ref 42), ee P "__static_attributes__" 228 (.ref 43), ee P "__dict__" 230 (.ref 46), ee P "__weakref__" 232 (.ref 47), ee P "__doc__" 233 .none] 4, #[]⟩
noncomputable def b45 (P : Params) : Obj := ⟨.type "type", none, .cls { name := "Position", bases := [.type "object"], mro := [.ref 45, .type "object"], ns := 44, qualname := "Position", hasDict := true, slotNames := [], subclasses := [], abstract := false, collection := none, hasDel := false }, #[none, none, some (.str "Position" 196), some (.str "Position" 204), some (.builtin "object.__new__"), some (.bool true)]⟩
noncomputable def b46 (P : Params) : Obj := ⟨.type "getset_descriptor", none, .fields #[.str "__dict__" 229, .ref 45, .builtin "function.__dict__", .builtin "function.__dict__#set"], #[]⟩
noncomputable def b47 (P : Params) : Obj := ⟨.type "getset_descriptor", none, .fields #[.str "__weakref__" 231, .ref 45, .builtin "ExceptionGroup.__weakref__", .none], #[]⟩
noncomputable def b48 (P : Params) : Obj := ⟨.type "super", none, .fields #[.ref 45, .ref 45, .ref 45], #[]⟩
noncomputable def b49 (P : Params) : Obj := ⟨.type "builtin_function_or_method", none, .fields #[.builtin "object.__init_subclass__", .ref 45], #[]⟩
noncomputable def b52 (P : Params) : Obj := ⟨.type "tuple", none, .seq #[.str "text" 239, .str "offset" 240, .str "at" 241, .str "line" 242, .str "begun" 243, .str "here" 244] 0, #[]⟩
noncomputable def b54 (P : Params) : Obj := ⟨.none, none, .func ⟨"position_of", "position_of", dP (sA 3), dB (sA 3), dS (sA 3), 0, [], .none, .none, .none, .none, none, .none, .none, 0⟩, #[]⟩
noncomputable def b55 (P : Params) : Obj := ⟨.type "code", none, .fields #[.str "position_of" 236, .str "position_of" 237, .str "/claim/cut.py" 238, .int 14 0, .int 2 0, .int 0 0, .int 0 0, .int 3 0, .ref 50, .bool true, .int 181 0, .ref 51, .none, .ref 52, .ref 53, .ref 54, .int 245 0, .int 14 0, .str "/claim/cut.py" 246], #[]⟩
noncomputable def b56 (P : Params) : Obj := ⟨.type "function", none, .func ⟨"position_of", "position_of", dP (sA 3), dB (sA 3), dS (sA 3), 3, [], .none, .none, .none, .str "grammarmill.source" 194, none, .ref 55, .none, 0⟩, #[]⟩
noncomputable def b57 (P : Params) : Obj := ⟨.type "tuple", none, .seq #[.type "Exception"] 0, #[]⟩
noncomputable def b59 (P : Params) : Obj := ⟨.type "dict", none, .dict #[ee P "__module__" 255 (.str "grammarmill.source" 194), ee P "__qualname__" 257 (.str "ToolError" 256), ee P "__firstlineno__" 259 (.int 23 258), ee P "__init__" 268 (.ref 71), ee P "told" 275 (.ref 78), ee P "__static_attributes__" 278 (.ref 79)] 6, #[]⟩
noncomputable def b61 (P : Params) : Obj := ⟨.none, none, .fields #[.int 25 0, .int 4 0, .ref 70, .int 30 0, .int 4 0, .ref 77], #[]⟩
noncomputable def b62 (P : Params) : Obj := ⟨.type "code", none, .fields #[.str "ToolError" 250, .str "ToolError" 251, .str "/claim/cut.py" 252, .int 23 0, .int 0 0, .int 0 0, .int 0 0, .int 0 0, .ref 60, .bool false, .int 181 0, .ref 61, .none, .none, .none, .none, .int 253 0, .int 23 0, .str "/claim/cut.py" 254], #[]⟩
noncomputable def b63 (P : Params) : Obj := ⟨.type "frame", none, .plain, #[some (.ref 62), some (.ref 3), some (.ref 59), none, some (.str "grammarmill.source" 194), none, some (.ref 0)]⟩
noncomputable def b64 (P : Params) : Obj := ⟨.type "tuple", none, .seq #[.none] 0, #[]⟩
noncomputable def b67 (P : Params) : Obj := ⟨.type "tuple", none, .seq #[.str "self" 263, .str "what" 264, .str "at" 265] 0, #[]⟩
noncomputable def b69 (P : Params) : Obj := ⟨.none, none, .func ⟨"__init__", "ToolError.__init__", dP (sB 4 0), dB (sB 4 0), dS (sB 4 0), 0, [], .none, .none, .none, .none, none, .none, .none, 0⟩, #[]⟩
noncomputable def b70 (P : Params) : Obj := ⟨.type "code", none, .fields #[.str "__init__" 260, .str "ToolError.__init__" 261, .str "/claim/cut.py" 262, .int 25 0, .int 3 0, .int 0 0, .int 0 0, .int 3 0, .ref 65, .bool true, .int 181 0, .ref 66, .none, .ref 67, .ref 68, .ref 69, .int 266 0, .int 25 0, .str "/claim/cut.py" 267], #[]⟩
noncomputable def b71 (P : Params) : Obj := ⟨.type "function", none, .func ⟨"__init__", "ToolError.__init__", dP (sB 4 0), dB (sB 4 0), dS (sB 4 0), 3, [], .ref 64, .none, .none, .str "grammarmill.source" 194, none, .ref 70, .none, 0⟩, #[]⟩
noncomputable def b74 (P : Params) : Obj := ⟨.type "tuple", none, .seq #[.str "self" 272] 0, #[]⟩
noncomputable def b76 (P : Params) : Obj := ⟨.none, none, .func ⟨"told", "ToolError.told", dP (sB 4 1), dB (sB 4 1), dS (sB 4 1), 0, [], .none, .none, .none, .none, none, .none, .none, 0⟩, #[]⟩
noncomputable def b77 (P : Params) : Obj := ⟨.type "code", none, .fields #[.str "told" 269, .str "ToolError.told" 270, .str "/claim/cut.py" 271, .int 30 0, .int 1 0, .int 0 0, .int 0 0, .int 3 0, .ref 72, .bool true, .int 181 0, .ref 73, .none, .ref 74, .ref 75, .ref 76, .int 273 0, .int 30 0, .str "/claim/cut.py" 274], #[]⟩
noncomputable def b78 (P : Params) : Obj := ⟨.type "function", none, .func ⟨"told", "ToolError.told", dP (sB 4 1), dB (sB 4 1), dS (sB 4 1), 3, [], .none, .none, .none, .str "grammarmill.source" 194, none, .ref 77, .none, 0⟩, #[]⟩
noncomputable def b79 (P : Params) : Obj := ⟨.type "tuple", none, .seq #[.str "at" 276, .str "what" 277] 0, #[]⟩
noncomputable def b80 (P : Params) : Obj := ⟨.type "dict", none, .dict #[ee P "__module__" 255 (.str "grammarmill.source" 194), ee P "__firstlineno__" 259 (.int 23 258), ee P "__init__" 268 (.ref 71), ee P "told" 275 (.ref 78), ee P "__static_attributes__" 278 (.ref 79), ee P "__weakref__" 280 (.ref 82), ee P "__doc__" 281 .none] 3, #[]⟩
noncomputable def b81 (P : Params) : Obj := ⟨.type "type", none, .cls { name := "ToolError", bases := [.type "Exception"], mro := [.ref 81, .type "Exception", .type "BaseException", .type "object"], ns := 80, qualname := "ToolError", hasDict := true, slotNames := [], subclasses := [.ref 94, .ref 106], abstract := false, collection := none, hasDel := false }, #[some (.ref 57), none, some (.str "ToolError" 248), some (.str "ToolError" 256), some (.builtin "Exception.__new__"), some (.bool true)]⟩
noncomputable def b82 (P : Params) : Obj := ⟨.type "getset_descriptor", none, .fields #[.str "__weakref__" 279, .ref 81, .builtin "ExceptionGroup.__weakref__", .none], #[]⟩
noncomputable def b83 (P : Params) : Obj := ⟨.type "super", none, .fields #[.ref 81, .ref 81, .ref 81], #[]⟩
noncomputable def b84 (P : Params) : Obj := ⟨.type "builtin_function_or_method", none, .fields #[.builtin "object.__init_subclass__", .ref 81], #[]⟩
noncomputable def b85 (P : Params) : Obj := ⟨.type "tuple", none, .seq #[.ref 81] 0, #[]⟩
noncomputable def b87 (P : Params) : Obj := ⟨.type "dict", none, .dict #[ee P "__module__" 293 (.str "grammarmill.source" 194), ee P "__qualname__" 295 (.str "TableError" 294), ee P "__firstlineno__" 297 (.int 34 296), ee P "__static_attributes__" 298 (.ref 92)] 4, #[]⟩
noncomputable def b90 (P : Params) : Obj := ⟨.type "code", none, .fields #[.str "TableError" 288, .str "TableError" 289, .str "/claim/cut.py" 290, .int 34 0, .int 0 0, .int 0 0, .int 0 0, .int 0 0, .ref 88, .bool false, .int 181 0, .ref 89, .none, .none, .none, .none, .int 291 0, .int 34 0, .str "/claim/cut.py" 292], #[]⟩
noncomputable def b91 (P : Params) : Obj := ⟨.type "frame", none, .plain, #[some (.ref 90), some (.ref 3), some (.ref 87), none, some (.str "grammarmill.source" 194), none, some (.ref 0)]⟩
noncomputable def b93 (P : Params) : Obj := ⟨.type "dict", none, .dict #[ee P "__module__" 293 (.str "grammarmill.source" 194), ee P "__firstlineno__" 297 (.int 34 296), ee P "__static_attributes__" 298 (.ref 92), ee P "__doc__" 299 .none] 2, #[]⟩
noncomputable def b94 (P : Params) : Obj := ⟨.type "type", none, .cls { name := "TableError", bases := [.ref 81], mro := [.ref 94, .ref 81, .type "Exception", .type "BaseException", .type "object"], ns := 93, qualname := "TableError", hasDict := true, slotNames := [], subclasses := [], abstract := false, collection := none, hasDel := false }, #[some (.ref 85), none, some (.str "TableError" 286), some (.str "TableError" 294), some (.builtin "Exception.__new__"), some (.bool true)]⟩
noncomputable def b95 (P : Params) : Obj := ⟨.type "super", none, .fields #[.ref 94, .ref 94, .ref 94], #[]⟩
noncomputable def b96 (P : Params) : Obj := ⟨.type "builtin_function_or_method", none, .fields #[.builtin "object.__init_subclass__", .ref 94], #[]⟩
noncomputable def b99 (P : Params) : Obj := ⟨.type "dict", none, .dict #[ee P "__module__" 309 (.str "grammarmill.source" 194), ee P "__qualname__" 311 (.str "ScanError" 310), ee P "__firstlineno__" 313 (.int 36 312), ee P "__static_attributes__" 314 (.ref 104)] 4, #[]⟩
noncomputable def b102 (P : Params) : Obj := ⟨.type "code", none, .fields #[.str "ScanError" 304, .str "ScanError" 305, .str "/claim/cut.py" 306, .int 36 0, .int 0 0, .int 0 0, .int 0 0, .int 0 0, .ref 100, .bool false, .int 181 0, .ref 101, .none, .none, .none, .none, .int 307 0, .int 36 0, .str "/claim/cut.py" 308], #[]⟩
noncomputable def b103 (P : Params) : Obj := ⟨.type "frame", none, .plain, #[some (.ref 102), some (.ref 3), some (.ref 99), none, some (.str "grammarmill.source" 194), none, some (.ref 0)]⟩
noncomputable def b105 (P : Params) : Obj := ⟨.type "dict", none, .dict #[ee P "__module__" 309 (.str "grammarmill.source" 194), ee P "__firstlineno__" 313 (.int 36 312), ee P "__static_attributes__" 314 (.ref 104), ee P "__doc__" 315 .none] 2, #[]⟩
noncomputable def b106 (P : Params) : Obj := ⟨.type "type", none, .cls { name := "ScanError", bases := [.ref 81], mro := [.ref 106, .ref 81, .type "Exception", .type "BaseException", .type "object"], ns := 105, qualname := "ScanError", hasDict := true, slotNames := [], subclasses := [], abstract := false, collection := none, hasDel := false }, #[some (.ref 97), none, some (.str "ScanError" 302), some (.str "ScanError" 310), some (.builtin "Exception.__new__"), some (.bool true)]⟩
noncomputable def b107 (P : Params) : Obj := ⟨.type "super", none, .fields #[.ref 106, .ref 106, .ref 106], #[]⟩
noncomputable def b108 (P : Params) : Obj := ⟨.type "builtin_function_or_method", none, .fields #[.builtin "object.__init_subclass__", .ref 106], #[]⟩
noncomputable def b111 (P : Params) : Obj := ⟨.type "dict", none, .dict #[ee P "__module__" 325 (.str "grammarmill.source" 194), ee P "__qualname__" 327 (.str "Token" 326), ee P "__firstlineno__" 329 (.int 38 328), ee P "__init__" 340 (.ref 123), ee P "told" 347 (.ref 130), ee P "is_end" 354 (.ref 137), ee P "__static_attributes__" 359 (.ref 138)] 7, #[]⟩
noncomputable def b113 (P : Params) : Obj := ⟨.none, none, .fields #[.int 40 0, .int 4 0, .ref 122, .int 46 0, .int 4 0, .ref 129, .int 49 0, .int 4 0, .ref 136], #[]⟩
noncomputable def b114 (P : Params) : Obj := ⟨.type "code", none, .fields #[.str "Token" 320, .str "Token" 321, .str "/claim/cut.py" 322, .int 38 0, .int 0 0, .int 0 0, .int 0 0, .int 0 0, .ref 112, .bool false, .int 181 0, .ref 113, .none, .none, .none, .none, .int 323 0, .int 38 0, .str "/claim/cut.py" 324], #[]⟩
noncomputable def b115 (P : Params) : Obj := ⟨.type "frame", none, .plain, #[some (.ref 114), some (.ref 3), some (.ref 111), none, some (.str "grammarmill.source" 194), none, some (.ref 0)]⟩
noncomputable def b119 (P : Params) : Obj := ⟨.type "tuple", none, .seq #[.str "self" 333, .str "kind" 334, .str "text" 335, .str "at" 336, .str "worth" 337] 0, #[]⟩
noncomputable def b121 (P : Params) : Obj := ⟨.none, none, .func ⟨"__init__", "Token.__init__", dP (sB 7 0), dB (sB 7 0), dS (sB 7 0), 0, [], .none, .none, .none, .none, none, .none, .none, 0⟩, #[]⟩
noncomputable def b122 (P : Params) : Obj := ⟨.type "code", none, .fields #[.str "__init__" 330, .str "Token.__init__" 331, .str "/claim/cut.py" 332, .int 40 0, .int 5 0, .int 0 0, .int 0 0, .int 3 0, .ref 117, .bool true, .int 181 0, .ref 118, .none, .ref 119, .ref 120, .ref 121, .int 338 0, .int 40 0, .str "/claim/cut.py" 339], #[]⟩
noncomputable def b123 (P : Params) : Obj := ⟨.type "function", none, .func ⟨"__init__", "Token.__init__", dP (sB 7 0), dB (sB 7 0), dS (sB 7 0), 3, [], .ref 116, .none, .none, .str "grammarmill.source" 194, none, .ref 122, .none, 0⟩, #[]⟩
noncomputable def b126 (P : Params) : Obj := ⟨.type "tuple", none, .seq #[.str "self" 344] 0, #[]⟩
noncomputable def b128 (P : Params) : Obj := ⟨.none, none, .func ⟨"told", "Token.told", dP (sB 7 1), dB (sB 7 1), dS (sB 7 1), 0, [], .none, .none, .none, .none, none, .none, .none, 0⟩, #[]⟩
noncomputable def b129 (P : Params) : Obj := ⟨.type "code", none, .fields #[.str "told" 341, .str "Token.told" 342, .str "/claim/cut.py" 343, .int 46 0, .int 1 0, .int 0 0, .int 0 0, .int 3 0, .ref 124, .bool true, .int 181 0, .ref 125, .none, .ref 126, .ref 127, .ref 128, .int 345 0, .int 46 0, .str "/claim/cut.py" 346], #[]⟩
noncomputable def b130 (P : Params) : Obj := ⟨.type "function", none, .func ⟨"told", "Token.told", dP (sB 7 1), dB (sB 7 1), dS (sB 7 1), 3, [], .none, .none, .none, .str "grammarmill.source" 194, none, .ref 129, .none, 0⟩, #[]⟩
noncomputable def b133 (P : Params) : Obj := ⟨.type "tuple", none, .seq #[.str "self" 351] 0, #[]⟩
noncomputable def b135 (P : Params) : Obj := ⟨.none, none, .func ⟨"is_end", "Token.is_end", dP (sB 7 2), dB (sB 7 2), dS (sB 7 2), 0, [], .none, .none, .none, .none, none, .none, .none, 0⟩, #[]⟩
noncomputable def b136 (P : Params) : Obj := ⟨.type "code", none, .fields #[.str "is_end" 348, .str "Token.is_end" 349, .str "/claim/cut.py" 350, .int 49 0, .int 1 0, .int 0 0, .int 0 0, .int 3 0, .ref 131, .bool true, .int 181 0, .ref 132, .none, .ref 133, .ref 134, .ref 135, .int 352 0, .int 49 0, .str "/claim/cut.py" 353], #[]⟩
noncomputable def b137 (P : Params) : Obj := ⟨.type "function", none, .func ⟨"is_end", "Token.is_end", dP (sB 7 2), dB (sB 7 2), dS (sB 7 2), 3, [], .none, .none, .none, .str "grammarmill.source" 194, none, .ref 136, .none, 0⟩, #[]⟩
noncomputable def b138 (P : Params) : Obj := ⟨.type "tuple", none, .seq #[.str "at" 355, .str "kind" 356, .str "text" 357, .str "worth" 358] 0, #[]⟩
noncomputable def b139 (P : Params) : Obj := ⟨.type "dict", none, .dict #[ee P "__module__" 325 (.str "grammarmill.source" 194), ee P "__firstlineno__" 329 (.int 38 328), ee P "__init__" 340 (.ref 123), ee P "told" 347 (.ref 130), ee P "is_end" 354 (.ref 137), ee P "__static_attributes__" 359 (.ref 138), ee P "__dict__" 361 (.ref 141), ee P "__weakref__" 363 (.ref 142), ee P "__doc__" 364 .none] 4, #[]⟩
noncomputable def b140 (P : Params) : Obj := ⟨.type "type", none, .cls { name := "Token", bases := [.type "object"], mro := [.ref 140, .type "object"], ns := 139, qualname := "Token", hasDict := true, slotNames := [], subclasses := [], abstract := false, collection := none, hasDel := false }, #[none, none, some (.str "Token" 318), some (.str "Token" 326), some (.builtin "object.__new__"), some (.bool true)]⟩
noncomputable def b141 (P : Params) : Obj := ⟨.type "getset_descriptor", none, .fields #[.str "__dict__" 360, .ref 140, .builtin "function.__dict__", .builtin "function.__dict__#set"], #[]⟩
noncomputable def b142 (P : Params) : Obj := ⟨.type "getset_descriptor", none, .fields #[.str "__weakref__" 362, .ref 140, .builtin "ExceptionGroup.__weakref__", .none], #[]⟩
noncomputable def b143 (P : Params) : Obj := ⟨.type "super", none, .fields #[.ref 140, .ref 140, .ref 140], #[]⟩
noncomputable def b144 (P : Params) : Obj := ⟨.type "builtin_function_or_method", none, .fields #[.builtin "object.__init_subclass__", .ref 140], #[]⟩
noncomputable def b147 (P : Params) : Obj := ⟨.type "tuple", none, .seq #[.str "text" 370] 0, #[]⟩
noncomputable def b149 (P : Params) : Obj := ⟨.none, none, .func ⟨"end_token", "end_token", dP (sA 8), dB (sA 8), dS (sA 8), 0, [], .none, .none, .none, .none, none, .none, .none, 0⟩, #[]⟩
noncomputable def b150 (P : Params) : Obj := ⟨.type "code", none, .fields #[.str "end_token" 367, .str "end_token" 368, .str "/claim/cut.py" 369, .int 51 0, .int 1 0, .int 0 0, .int 0 0, .int 3 0, .ref 145, .bool true, .int 181 0, .ref 146, .none, .ref 147, .ref 148, .ref 149, .int 371 0, .int 51 0, .str "/claim/cut.py" 372], #[]⟩
noncomputable def b151 (P : Params) : Obj := ⟨.type "function", none, .func ⟨"end_token", "end_token", dP (sA 8), dB (sA 8), dS (sA 8), 3, [], .none, .none, .none, .str "grammarmill.source" 194, none, .ref 150, .none, 0⟩, #[]⟩
noncomputable def b3x2 (P : Params) : Obj := ⟨.type "dict", none, .dict #[ee P "__name__" 165 (.str "grammarmill.lexmake" 459), ee P "__doc__" 166 .none, ee P "__package__" 167 .none, ee P "__loader__" 168 (.builtin "__main__.__loader__#opaque"), ee P "__spec__" 169 .none, ee P "__annotations__" 170 (.ref 6), ee P "__builtins__" 171 (.ref 4), ee P "__file__" 173 (.str "/claim/cut.py" 172), ee P "__cached__" 174 .none, ee P "_wall" 193 (.ref 21), ee P "Position" 235 (.ref 45), ee P "position_of" 247 (.ref 56), ee P "ToolError" 285 (.ref 81), ee P "TableError" 301 (.ref 94), ee P "ScanError" 317 (.ref 106), ee P "Token" 366 (.ref 140), ee P "end_token" 373 (.ref 151), ee P "DEAD" 378 (.int (-1) 377), ee P "Dfa" 445 (.ref 201), ee P "endings" 458 (.ref 213), ee P "Cut" 495 (.ref 230), ee P "LexTables" 571 (.ref 279)] 22, #[]⟩
noncomputable def b12x2 (P : Params) : Obj := ⟨.none, none, .fields #[.int 1 0, .int 0 0, .ref 20, .int 5 0, .int 0 0, .ref 27, .int 14 0, .int 0 0, .ref 55, .int 23 0, .int 0 0, .ref 62, .int 34 0, .int 0 0, .ref 90, .int 36 0, .int 0 0, .ref 102, .int 38 0, .int 0 0, .ref 114, .int 51 0, .int 0 0, .ref 150, .int 55 0, .int 0 0, .ref 157, .int 77 0, .int 0 0, .ref 212, .int 88 0, .int 0 0, .ref 219, .int 95 0, .int 0 0, .ref 240], #[]⟩
noncomputable def b154 (P : Params) : Obj := ⟨.type "dict", none, .dict #[ee P "__module__" 386 (.str "grammarmill.dfa" 374), ee P "__qualname__" 388 (.str "Dfa" 387), ee P "__firstlineno__" 390 (.int 55 389), ee P "__init__" 399 (.ref 165), ee P "class_count" 406 (.ref 172), ee P "state_count" 413 (.ref 179), ee P "step" 422 (.ref 186), ee P "links" 429 (.ref 193), ee P "told" 435 (.ref 198), ee P "__static_attributes__" 438 (.ref 199)] 10, #[]⟩
noncomputable def b156 (P : Params) : Obj := ⟨.none, none, .fields #[.int 57 0, .int 4 0, .ref 164, .int 61 0, .int 4 0, .ref 171, .int 64 0, .int 4 0, .ref 178, .int 67 0, .int 4 0, .ref 185, .int 72 0, .int 4 0, .ref 192, .int 75 0, .int 4 0, .ref 197], #[]⟩
noncomputable def b157 (P : Params) : Obj := ⟨.type "code", none, .fields #[.str "Dfa" 381, .str "Dfa" 382, .str "/claim/cut.py" 383, .int 55 0, .int 0 0, .int 0 0, .int 0 0, .int 0 0, .ref 155, .bool false, .int 181 0, .ref 156, .none, .none, .none, .none, .int 384 0, .int 55 0, .str "/claim/cut.py" 385], #[]⟩
noncomputable def b158 (P : Params) : Obj := ⟨.type "frame", none, .plain, #[some (.ref 157), some (.ref 3), some (.ref 154), none, some (.str "grammarmill.dfa" 374), none, some (.ref 0)]⟩
noncomputable def b161 (P : Params) : Obj := ⟨.type "tuple", none, .seq #[.str "self" 394, .str "rows" 395, .str "tags" 396] 0, #[]⟩
noncomputable def b163 (P : Params) : Obj := ⟨.none, none, .func ⟨"__init__", "Dfa.__init__", dP (sB 11 0), dB (sB 11 0), dS (sB 11 0), 0, [], .none, .none, .none, .none, none, .none, .none, 0⟩, #[]⟩
noncomputable def b164 (P : Params) : Obj := ⟨.type "code", none, .fields #[.str "__init__" 391, .str "Dfa.__init__" 392, .str "/claim/cut.py" 393, .int 57 0, .int 3 0, .int 0 0, .int 0 0, .int 3 0, .ref 159, .bool true, .int 181 0, .ref 160, .none, .ref 161, .ref 162, .ref 163, .int 397 0, .int 57 0, .str "/claim/cut.py" 398], #[]⟩
noncomputable def b165 (P : Params) : Obj := ⟨.type "function", none, .func ⟨"__init__", "Dfa.__init__", dP (sB 11 0), dB (sB 11 0), dS (sB 11 0), 3, [], .none, .none, .none, .str "grammarmill.dfa" 374, none, .ref 164, .none, 0⟩, #[]⟩
noncomputable def b168 (P : Params) : Obj := ⟨.type "tuple", none, .seq #[.str "self" 403] 0, #[]⟩
noncomputable def b170 (P : Params) : Obj := ⟨.none, none, .func ⟨"class_count", "Dfa.class_count", dP (sB 11 1), dB (sB 11 1), dS (sB 11 1), 0, [], .none, .none, .none, .none, none, .none, .none, 0⟩, #[]⟩
noncomputable def b171 (P : Params) : Obj := ⟨.type "code", none, .fields #[.str "class_count" 400, .str "Dfa.class_count" 401, .str "/claim/cut.py" 402, .int 61 0, .int 1 0, .int 0 0, .int 0 0, .int 3 0, .ref 166, .bool true, .int 181 0, .ref 167, .none, .ref 168, .ref 169, .ref 170, .int 404 0, .int 61 0, .str "/claim/cut.py" 405], #[]⟩
noncomputable def b172 (P : Params) : Obj := ⟨.type "function", none, .func ⟨"class_count", "Dfa.class_count", dP (sB 11 1), dB (sB 11 1), dS (sB 11 1), 3, [], .none, .none, .none, .str "grammarmill.dfa" 374, none, .ref 171, .none, 0⟩, #[]⟩
noncomputable def b175 (P : Params) : Obj := ⟨.type "tuple", none, .seq #[.str "self" 410] 0, #[]⟩
noncomputable def b177 (P : Params) : Obj := ⟨.none, none, .func ⟨"state_count", "Dfa.state_count", dP (sB 11 2), dB (sB 11 2), dS (sB 11 2), 0, [], .none, .none, .none, .none, none, .none, .none, 0⟩, #[]⟩
noncomputable def b178 (P : Params) : Obj := ⟨.type "code", none, .fields #[.str "state_count" 407, .str "Dfa.state_count" 408, .str "/claim/cut.py" 409, .int 64 0, .int 1 0, .int 0 0, .int 0 0, .int 3 0, .ref 173, .bool true, .int 181 0, .ref 174, .none, .ref 175, .ref 176, .ref 177, .int 411 0, .int 64 0, .str "/claim/cut.py" 412], #[]⟩
noncomputable def b179 (P : Params) : Obj := ⟨.type "function", none, .func ⟨"state_count", "Dfa.state_count", dP (sB 11 2), dB (sB 11 2), dS (sB 11 2), 3, [], .none, .none, .none, .str "grammarmill.dfa" 374, none, .ref 178, .none, 0⟩, #[]⟩
noncomputable def b182 (P : Params) : Obj := ⟨.type "tuple", none, .seq #[.str "self" 417, .str "state" 418, .str "number" 419] 0, #[]⟩
noncomputable def b184 (P : Params) : Obj := ⟨.none, none, .func ⟨"step", "Dfa.step", dP (sB 11 3), dB (sB 11 3), dS (sB 11 3), 0, [], .none, .none, .none, .none, none, .none, .none, 0⟩, #[]⟩
noncomputable def b185 (P : Params) : Obj := ⟨.type "code", none, .fields #[.str "step" 414, .str "Dfa.step" 415, .str "/claim/cut.py" 416, .int 67 0, .int 3 0, .int 0 0, .int 0 0, .int 3 0, .ref 180, .bool true, .int 181 0, .ref 181, .none, .ref 182, .ref 183, .ref 184, .int 420 0, .int 67 0, .str "/claim/cut.py" 421], #[]⟩
noncomputable def b186 (P : Params) : Obj := ⟨.type "function", none, .func ⟨"step", "Dfa.step", dP (sB 11 3), dB (sB 11 3), dS (sB 11 3), 3, [], .none, .none, .none, .str "grammarmill.dfa" 374, none, .ref 185, .none, 0⟩, #[]⟩
noncomputable def b189 (P : Params) : Obj := ⟨.type "tuple", none, .seq #[.str "self" 426] 0, #[]⟩
noncomputable def b191 (P : Params) : Obj := ⟨.none, none, .func ⟨"links", "Dfa.links", dP (sB 11 4), dB (sB 11 4), dS (sB 11 4), 0, [], .none, .none, .none, .none, none, .none, .none, 0⟩, #[]⟩
noncomputable def b192 (P : Params) : Obj := ⟨.type "code", none, .fields #[.str "links" 423, .str "Dfa.links" 424, .str "/claim/cut.py" 425, .int 72 0, .int 1 0, .int 0 0, .int 0 0, .int 3 0, .ref 187, .bool true, .int 181 0, .ref 188, .none, .ref 189, .ref 190, .ref 191, .int 427 0, .int 72 0, .str "/claim/cut.py" 428], #[]⟩
noncomputable def b193 (P : Params) : Obj := ⟨.type "function", none, .func ⟨"links", "Dfa.links", dP (sB 11 4), dB (sB 11 4), dS (sB 11 4), 3, [], .none, .none, .none, .str "grammarmill.dfa" 374, none, .ref 192, .none, 0⟩, #[]⟩
noncomputable def b196 (P : Params) : Obj := ⟨.none, none, .func ⟨"told", "Dfa.told", dP (sB 11 5), dB (sB 11 5), dS (sB 11 5), 0, [], .none, .none, .none, .none, none, .none, .none, 0⟩, #[]⟩
noncomputable def b197 (P : Params) : Obj := ⟨.type "code", none, .fields #[.str "told" 430, .str "Dfa.told" 431, .str "/claim/cut.py" 432, .int 75 0, .int 1 0, .int 0 0, .int 0 0, .int 3 0, .ref 194, .bool true, .int 181 0, .ref 195, .none, .none, .none, .ref 196, .int 433 0, .int 75 0, .str "/claim/cut.py" 434], #[]⟩
noncomputable def b198 (P : Params) : Obj := ⟨.type "function", none, .func ⟨"told", "Dfa.told", dP (sB 11 5), dB (sB 11 5), dS (sB 11 5), 3, [], .none, .none, .none, .str "grammarmill.dfa" 374, none, .ref 197, .none, 0⟩, #[]⟩
noncomputable def b199 (P : Params) : Obj := ⟨.type "tuple", none, .seq #[.str "rows" 436, .str "tags" 437] 0, #[]⟩
noncomputable def b200 (P : Params) : Obj := ⟨.type "dict", none, .dict #[ee P "__module__" 386 (.str "grammarmill.dfa" 374), ee P "__firstlineno__" 390 (.int 55 389), ee P "__init__" 399 (.ref 165), ee P "class_count" 406 (.ref 172), ee P "state_count" 413 (.ref 179), ee P "step" 422 (.ref 186), ee P "links" 429 (.ref 193), ee P "told" 435 (.ref 198), ee P "__static_attributes__" 438 (.ref 199), ee P "__dict__" 440 (.ref 202), ee P "__weakref__" 442 (.ref 203), ee P "__doc__" 443 .none] 4, #[]⟩
noncomputable def b201 (P : Params) : Obj := ⟨.type "type", none, .cls { name := "Dfa", bases := [.type "object"], mro := [.ref 201, .type "object"], ns := 200, qualname := "Dfa", hasDict := true, slotNames := [], subclasses := [], abstract := false, collection := none, hasDel := false }, #[none, none, some (.str "Dfa" 379), some (.str "Dfa" 387), some (.builtin "object.__new__"), some (.bool true)]⟩
noncomputable def b202 (P : Params) : Obj := ⟨.type "getset_descriptor", none, .fields #[.str "__dict__" 439, .ref 201, .builtin "function.__dict__", .builtin "function.__dict__#set"], #[]⟩
noncomputable def b203 (P : Params) : Obj := ⟨.type "getset_descriptor", none, .fields #[.str "__weakref__" 441, .ref 201, .builtin "ExceptionGroup.__weakref__", .none], #[]⟩
noncomputable def b204 (P : Params) : Obj := ⟨.type "super", none, .fields #[.ref 201, .ref 201, .ref 201], #[]⟩
noncomputable def b205 (P : Params) : Obj := ⟨.type "builtin_function_or_method", none, .fields #[.builtin "object.__init_subclass__", .ref 201], #[]⟩
noncomputable def b206 (P : Params) : Obj := ⟨.type "tuple", none, .seq #[.int 0 446] 0, #[]⟩
noncomputable def b209 (P : Params) : Obj := ⟨.type "tuple", none, .seq #[.str "dfa" 450, .str "numbers" 451, .str "at" 452, .str "state" 453, .str "found" 454, .str "end" 455] 0, #[]⟩
noncomputable def b211 (P : Params) : Obj := ⟨.none, none, .func ⟨"endings", "endings", dP (sA 12), dB (sA 12), dS (sA 12), 0, [], .none, .none, .none, .none, none, .none, .none, 0⟩, #[]⟩
noncomputable def b212 (P : Params) : Obj := ⟨.type "code", none, .fields #[.str "endings" 447, .str "endings" 448, .str "/claim/cut.py" 449, .int 77 0, .int 4 0, .int 0 0, .int 0 0, .int 3 0, .ref 207, .bool true, .int 181 0, .ref 208, .none, .ref 209, .ref 210, .ref 211, .int 456 0, .int 77 0, .str "/claim/cut.py" 457], #[]⟩
noncomputable def b213 (P : Params) : Obj := ⟨.type "function", none, .func ⟨"endings", "endings", dP (sA 12), dB (sA 12), dS (sA 12), 3, [], .ref 206, .none, .none, .str "grammarmill.dfa" 374, none, .ref 212, .none, 0⟩, #[]⟩
noncomputable def b216 (P : Params) : Obj := ⟨.type "dict", none, .dict #[ee P "__module__" 468 (.str "grammarmill.lexmake" 459), ee P "__qualname__" 470 (.str "Cut" 469), ee P "__firstlineno__" 472 (.int 88 471), ee P "__init__" 483 (.ref 227), ee P "__static_attributes__" 488 (.ref 228)] 5, #[]⟩
noncomputable def b218 (P : Params) : Obj := ⟨.none, none, .fields #[.int 90 0, .int 4 0, .ref 226], #[]⟩
noncomputable def b219 (P : Params) : Obj := ⟨.type "code", none, .fields #[.str "Cut" 463, .str "Cut" 464, .str "/claim/cut.py" 465, .int 88 0, .int 0 0, .int 0 0, .int 0 0, .int 0 0, .ref 217, .bool false, .int 181 0, .ref 218, .none, .none, .none, .none, .int 466 0, .int 88 0, .str "/claim/cut.py" 467], #[]⟩
noncomputable def b220 (P : Params) : Obj := ⟨.type "frame", none, .plain, #[some (.ref 219), some (.ref 3), some (.ref 216), none, some (.str "grammarmill.lexmake" 459), none, some (.ref 0)]⟩
noncomputable def b223 (P : Params) : Obj := ⟨.type "tuple", none, .seq #[.str "self" 476, .str "way" 477, .str "length" 478, .str "front" 479, .str "back" 480] 0, #[]⟩
noncomputable def b225 (P : Params) : Obj := ⟨.none, none, .func ⟨"__init__", "Cut.__init__", dP (sB 14 0), dB (sB 14 0), dS (sB 14 0), 0, [], .none, .none, .none, .none, none, .none, .none, 0⟩, #[]⟩
noncomputable def b226 (P : Params) : Obj := ⟨.type "code", none, .fields #[.str "__init__" 473, .str "Cut.__init__" 474, .str "/claim/cut.py" 475, .int 90 0, .int 5 0, .int 0 0, .int 0 0, .int 3 0, .ref 221, .bool true, .int 181 0, .ref 222, .none, .ref 223, .ref 224, .ref 225, .int 481 0, .int 90 0, .str "/claim/cut.py" 482], #[]⟩
noncomputable def b227 (P : Params) : Obj := ⟨.type "function", none, .func ⟨"__init__", "Cut.__init__", dP (sB 14 0), dB (sB 14 0), dS (sB 14 0), 3, [], .none, .none, .none, .str "grammarmill.lexmake" 459, none, .ref 226, .none, 0⟩, #[]⟩
noncomputable def b228 (P : Params) : Obj := ⟨.type "tuple", none, .seq #[.str "back" 484, .str "front" 485, .str "length" 486, .str "way" 487] 0, #[]⟩
noncomputable def b229 (P : Params) : Obj := ⟨.type "dict", none, .dict #[ee P "__module__" 468 (.str "grammarmill.lexmake" 459), ee P "__firstlineno__" 472 (.int 88 471), ee P "__init__" 483 (.ref 227), ee P "__static_attributes__" 488 (.ref 228), ee P "__dict__" 490 (.ref 231), ee P "__weakref__" 492 (.ref 232), ee P "__doc__" 493 .none] 4, #[]⟩
noncomputable def b230 (P : Params) : Obj := ⟨.type "type", none, .cls { name := "Cut", bases := [.type "object"], mro := [.ref 230, .type "object"], ns := 229, qualname := "Cut", hasDict := true, slotNames := [], subclasses := [], abstract := false, collection := none, hasDel := false }, #[none, none, some (.str "Cut" 461), some (.str "Cut" 469), some (.builtin "object.__new__"), some (.bool true)]⟩
noncomputable def b231 (P : Params) : Obj := ⟨.type "getset_descriptor", none, .fields #[.str "__dict__" 489, .ref 230, .builtin "function.__dict__", .builtin "function.__dict__#set"], #[]⟩
noncomputable def b232 (P : Params) : Obj := ⟨.type "getset_descriptor", none, .fields #[.str "__weakref__" 491, .ref 230, .builtin "ExceptionGroup.__weakref__", .none], #[]⟩
noncomputable def b233 (P : Params) : Obj := ⟨.type "super", none, .fields #[.ref 230, .ref 230, .ref 230], #[]⟩
noncomputable def b234 (P : Params) : Obj := ⟨.type "builtin_function_or_method", none, .fields #[.builtin "object.__init_subclass__", .ref 230], #[]⟩
noncomputable def b237 (P : Params) : Obj := ⟨.type "dict", none, .dict #[ee P "__module__" 503 (.str "grammarmill.lexmake" 459), ee P "__qualname__" 505 (.str "LexTables" 504), ee P "__firstlineno__" 507 (.int 95 506), ee P "__init__" 521 (.ref 248), ee P "automaton" 530 (.ref 255), ee P "steps" 538 (.ref 262), ee P "end_rule" 546 (.ref 269), ee P "live_rules" 554 (.ref 276), ee P "__static_attributes__" 564 (.ref 277)] 9, #[]⟩
noncomputable def b239 (P : Params) : Obj := ⟨.none, none, .fields #[.int 97 0, .int 4 0, .ref 247, .int 108 0, .int 4 0, .ref 254, .int 111 0, .int 4 0, .ref 261, .int 114 0, .int 4 0, .ref 268, .int 117 0, .int 4 0, .ref 275], #[]⟩
noncomputable def b240 (P : Params) : Obj := ⟨.type "code", none, .fields #[.str "LexTables" 498, .str "LexTables" 499, .str "/claim/cut.py" 500, .int 95 0, .int 0 0, .int 0 0, .int 0 0, .int 0 0, .ref 238, .bool false, .int 181 0, .ref 239, .none, .none, .none, .none, .int 501 0, .int 95 0, .str "/claim/cut.py" 502], #[]⟩
noncomputable def b241 (P : Params) : Obj := ⟨.type "frame", none, .plain, #[some (.ref 240), some (.ref 3), some (.ref 237), none, some (.str "grammarmill.lexmake" 459), none, some (.ref 0)]⟩
noncomputable def b244 (P : Params) : Obj := ⟨.type "tuple", none, .seq #[.str "self" 511, .str "classes" 512, .str "names" 513, .str "automata" 514, .str "rules" 515, .str "cuts" 516, .str "ends" 517, .str "has_default" 518] 0, #[]⟩
noncomputable def b246 (P : Params) : Obj := ⟨.none, none, .func ⟨"__init__", "LexTables.__init__", dP (sB 15 0), dB (sB 15 0), dS (sB 15 0), 0, [], .none, .none, .none, .none, none, .none, .none, 0⟩, #[]⟩
noncomputable def b247 (P : Params) : Obj := ⟨.type "code", none, .fields #[.str "__init__" 508, .str "LexTables.__init__" 509, .str "/claim/cut.py" 510, .int 97 0, .int 8 0, .int 0 0, .int 0 0, .int 3 0, .ref 242, .bool true, .int 181 0, .ref 243, .none, .ref 244, .ref 245, .ref 246, .int 519 0, .int 97 0, .str "/claim/cut.py" 520], #[]⟩
noncomputable def b248 (P : Params) : Obj := ⟨.type "function", none, .func ⟨"__init__", "LexTables.__init__", dP (sB 15 0), dB (sB 15 0), dS (sB 15 0), 3, [], .none, .none, .none, .str "grammarmill.lexmake" 459, none, .ref 247, .none, 0⟩, #[]⟩
noncomputable def b251 (P : Params) : Obj := ⟨.type "tuple", none, .seq #[.str "self" 525, .str "condition" 526, .str "begins" 527] 0, #[]⟩
noncomputable def b253 (P : Params) : Obj := ⟨.none, none, .func ⟨"automaton", "LexTables.automaton", dP (sB 15 1), dB (sB 15 1), dS (sB 15 1), 0, [], .none, .none, .none, .none, none, .none, .none, 0⟩, #[]⟩
noncomputable def b254 (P : Params) : Obj := ⟨.type "code", none, .fields #[.str "automaton" 522, .str "LexTables.automaton" 523, .str "/claim/cut.py" 524, .int 108 0, .int 3 0, .int 0 0, .int 0 0, .int 3 0, .ref 249, .bool true, .int 181 0, .ref 250, .none, .ref 251, .ref 252, .ref 253, .int 528 0, .int 108 0, .str "/claim/cut.py" 529], #[]⟩
noncomputable def b255 (P : Params) : Obj := ⟨.type "function", none, .func ⟨"automaton", "LexTables.automaton", dP (sB 15 1), dB (sB 15 1), dS (sB 15 1), 3, [], .none, .none, .none, .str "grammarmill.lexmake" 459, none, .ref 254, .none, 0⟩, #[]⟩
noncomputable def b258 (P : Params) : Obj := ⟨.type "tuple", none, .seq #[.str "self" 534, .str "number" 535] 0, #[]⟩
noncomputable def b260 (P : Params) : Obj := ⟨.none, none, .func ⟨"steps", "LexTables.steps", dP (sB 15 2), dB (sB 15 2), dS (sB 15 2), 0, [], .none, .none, .none, .none, none, .none, .none, 0⟩, #[]⟩
noncomputable def b261 (P : Params) : Obj := ⟨.type "code", none, .fields #[.str "steps" 531, .str "LexTables.steps" 532, .str "/claim/cut.py" 533, .int 111 0, .int 2 0, .int 0 0, .int 0 0, .int 3 0, .ref 256, .bool true, .int 181 0, .ref 257, .none, .ref 258, .ref 259, .ref 260, .int 536 0, .int 111 0, .str "/claim/cut.py" 537], #[]⟩
noncomputable def b262 (P : Params) : Obj := ⟨.type "function", none, .func ⟨"steps", "LexTables.steps", dP (sB 15 2), dB (sB 15 2), dS (sB 15 2), 3, [], .none, .none, .none, .str "grammarmill.lexmake" 459, none, .ref 261, .none, 0⟩, #[]⟩
noncomputable def b265 (P : Params) : Obj := ⟨.type "tuple", none, .seq #[.str "self" 542, .str "condition" 543] 0, #[]⟩
noncomputable def b267 (P : Params) : Obj := ⟨.none, none, .func ⟨"end_rule", "LexTables.end_rule", dP (sB 15 3), dB (sB 15 3), dS (sB 15 3), 0, [], .none, .none, .none, .none, none, .none, .none, 0⟩, #[]⟩
noncomputable def b268 (P : Params) : Obj := ⟨.type "code", none, .fields #[.str "end_rule" 539, .str "LexTables.end_rule" 540, .str "/claim/cut.py" 541, .int 114 0, .int 2 0, .int 0 0, .int 0 0, .int 3 0, .ref 263, .bool true, .int 181 0, .ref 264, .none, .ref 265, .ref 266, .ref 267, .int 544 0, .int 114 0, .str "/claim/cut.py" 545], #[]⟩
noncomputable def b269 (P : Params) : Obj := ⟨.type "function", none, .func ⟨"end_rule", "LexTables.end_rule", dP (sB 15 3), dB (sB 15 3), dS (sB 15 3), 3, [], .none, .none, .none, .str "grammarmill.lexmake" 459, none, .ref 268, .none, 0⟩, #[]⟩
noncomputable def b272 (P : Params) : Obj := ⟨.type "tuple", none, .seq #[.str "self" 550, .str "condition" 551] 0, #[]⟩
noncomputable def b274 (P : Params) : Obj := ⟨.none, none, .func ⟨"live_rules", "LexTables.live_rules", dP (sB 15 4), dB (sB 15 4), dS (sB 15 4), 0, [], .none, .none, .none, .none, none, .none, .none, 0⟩, #[]⟩
noncomputable def b275 (P : Params) : Obj := ⟨.type "code", none, .fields #[.str "live_rules" 547, .str "LexTables.live_rules" 548, .str "/claim/cut.py" 549, .int 117 0, .int 2 0, .int 0 0, .int 0 0, .int 3 0, .ref 270, .bool true, .int 181 0, .ref 271, .none, .ref 272, .ref 273, .ref 274, .int 552 0, .int 117 0, .str "/claim/cut.py" 553], #[]⟩
noncomputable def b276 (P : Params) : Obj := ⟨.type "function", none, .func ⟨"live_rules", "LexTables.live_rules", dP (sB 15 4), dB (sB 15 4), dS (sB 15 4), 3, [], .none, .none, .none, .str "grammarmill.lexmake" 459, none, .ref 275, .none, 0⟩, #[]⟩
noncomputable def b277 (P : Params) : Obj := ⟨.type "tuple", none, .seq #[.str "automata" 555, .str "classes" 556, .str "cuts" 557, .str "end_rules" 558, .str "ends" 559, .str "has_default" 560, .str "has_reject" 561, .str "names" 562, .str "rules" 563] 0, #[]⟩
noncomputable def b278 (P : Params) : Obj := ⟨.type "dict", none, .dict #[ee P "__module__" 503 (.str "grammarmill.lexmake" 459), ee P "__firstlineno__" 507 (.int 95 506), ee P "__init__" 521 (.ref 248), ee P "automaton" 530 (.ref 255), ee P "steps" 538 (.ref 262), ee P "end_rule" 546 (.ref 269), ee P "live_rules" 554 (.ref 276), ee P "__static_attributes__" 564 (.ref 277), ee P "__dict__" 566 (.ref 280), ee P "__weakref__" 568 (.ref 281), ee P "__doc__" 569 .none] 4, #[]⟩
noncomputable def b279 (P : Params) : Obj := ⟨.type "type", none, .cls { name := "LexTables", bases := [.type "object"], mro := [.ref 279, .type "object"], ns := 278, qualname := "LexTables", hasDict := true, slotNames := [], subclasses := [], abstract := false, collection := none, hasDel := false }, #[none, none, some (.str "LexTables" 496), some (.str "LexTables" 504), some (.builtin "object.__new__"), some (.bool true)]⟩
noncomputable def b280 (P : Params) : Obj := ⟨.type "getset_descriptor", none, .fields #[.str "__dict__" 565, .ref 279, .builtin "function.__dict__", .builtin "function.__dict__#set"], #[]⟩
noncomputable def b281 (P : Params) : Obj := ⟨.type "getset_descriptor", none, .fields #[.str "__weakref__" 567, .ref 279, .builtin "ExceptionGroup.__weakref__", .none], #[]⟩
noncomputable def b282 (P : Params) : Obj := ⟨.type "super", none, .fields #[.ref 279, .ref 279, .ref 279], #[]⟩
noncomputable def b283 (P : Params) : Obj := ⟨.type "builtin_function_or_method", none, .fields #[.builtin "object.__init_subclass__", .ref 279], #[]⟩
noncomputable def b3x3 (P : Params) : Obj := ⟨.type "dict", none, .dict #[ee P "__name__" 165 (.str "grammarmill.scanner" 612), ee P "__doc__" 166 .none, ee P "__package__" 167 .none, ee P "__loader__" 168 (.builtin "__main__.__loader__#opaque"), ee P "__spec__" 169 .none, ee P "__annotations__" 170 (.ref 6), ee P "__builtins__" 171 (.ref 4), ee P "__file__" 173 (.str "/claim/cut.py" 172), ee P "__cached__" 174 .none, ee P "_wall" 193 (.ref 21), ee P "Position" 235 (.ref 45), ee P "position_of" 247 (.ref 56), ee P "ToolError" 285 (.ref 81), ee P "TableError" 301 (.ref 94), ee P "ScanError" 317 (.ref 106), ee P "Token" 366 (.ref 140), ee P "end_token" 373 (.ref 151), ee P "DEAD" 378 (.int (-1) 377), ee P "Dfa" 445 (.ref 201), ee P "endings" 458 (.ref 213), ee P "Cut" 495 (.ref 230), ee P "LexTables" 571 (.ref 279), ee P "any_reject" 580 (.ref 290), ee P "is_final" 588 (.ref 297), ee P "cut_length" 598 (.ref 304), ee P "searched_cut" 611 (.ref 311), ee P "Reader" 785 (.ref 433)] 27, #[]⟩
noncomputable def b12x3 (P : Params) : Obj := ⟨.none, none, .fields #[.int 1 0, .int 0 0, .ref 20, .int 5 0, .int 0 0, .ref 27, .int 14 0, .int 0 0, .ref 55, .int 23 0, .int 0 0, .ref 62, .int 34 0, .int 0 0, .ref 90, .int 36 0, .int 0 0, .ref 102, .int 38 0, .int 0 0, .ref 114, .int 51 0, .int 0 0, .ref 150, .int 55 0, .int 0 0, .ref 157, .int 77 0, .int 0 0, .ref 212, .int 88 0, .int 0 0, .ref 219, .int 95 0, .int 0 0, .ref 240, .int 119 0, .int 0 0, .ref 289, .int 125 0, .int 0 0, .ref 296, .int 127 0, .int 0 0, .ref 303, .int 136 0, .int 0 0, .ref 310, .int 153 0, .int 0 0, .ref 317], #[]⟩
noncomputable def b286 (P : Params) : Obj := ⟨.type "tuple", none, .seq #[.str "rules" 575, .str "rule" 576, .str "step" 577] 0, #[]⟩
noncomputable def b288 (P : Params) : Obj := ⟨.none, none, .func ⟨"any_reject", "any_reject", dP (sA 16), dB (sA 16), dS (sA 16), 0, [], .none, .none, .none, .none, none, .none, .none, 0⟩, #[]⟩
noncomputable def b289 (P : Params) : Obj := ⟨.type "code", none, .fields #[.str "any_reject" 572, .str "any_reject" 573, .str "/claim/cut.py" 574, .int 119 0, .int 1 0, .int 0 0, .int 0 0, .int 3 0, .ref 284, .bool true, .int 181 0, .ref 285, .none, .ref 286, .ref 287, .ref 288, .int 578 0, .int 119 0, .str "/claim/cut.py" 579], #[]⟩
noncomputable def b290 (P : Params) : Obj := ⟨.type "function", none, .func ⟨"any_reject", "any_reject", dP (sA 16), dB (sA 16), dS (sA 16), 3, [], .none, .none, .none, .str "grammarmill.lexmake" 459, none, .ref 289, .none, 0⟩, #[]⟩
noncomputable def b293 (P : Params) : Obj := ⟨.type "tuple", none, .seq #[.str "automaton" 584, .str "state" 585] 0, #[]⟩
noncomputable def b295 (P : Params) : Obj := ⟨.none, none, .func ⟨"is_final", "is_final", dP (sA 17), dB (sA 17), dS (sA 17), 0, [], .none, .none, .none, .none, none, .none, .none, 0⟩, #[]⟩
noncomputable def b296 (P : Params) : Obj := ⟨.type "code", none, .fields #[.str "is_final" 581, .str "is_final" 582, .str "/claim/cut.py" 583, .int 125 0, .int 2 0, .int 0 0, .int 0 0, .int 3 0, .ref 291, .bool true, .int 181 0, .ref 292, .none, .ref 293, .ref 294, .ref 295, .int 586 0, .int 125 0, .str "/claim/cut.py" 587], #[]⟩
noncomputable def b297 (P : Params) : Obj := ⟨.type "function", none, .func ⟨"is_final", "is_final", dP (sA 17), dB (sA 17), dS (sA 17), 3, [], .none, .none, .none, .str "grammarmill.lexmake" 459, none, .ref 296, .none, 0⟩, #[]⟩
noncomputable def b300 (P : Params) : Obj := ⟨.type "tuple", none, .seq #[.str "tables" 592, .str "rule_number" 593, .str "numbers" 594, .str "cut" 595] 0, #[]⟩
noncomputable def b302 (P : Params) : Obj := ⟨.none, none, .func ⟨"cut_length", "cut_length", dP (sA 18), dB (sA 18), dS (sA 18), 0, [], .none, .none, .none, .none, none, .none, .none, 0⟩, #[]⟩
noncomputable def b303 (P : Params) : Obj := ⟨.type "code", none, .fields #[.str "cut_length" 589, .str "cut_length" 590, .str "/claim/cut.py" 591, .int 127 0, .int 3 0, .int 0 0, .int 0 0, .int 3 0, .ref 298, .bool true, .int 181 0, .ref 299, .none, .ref 300, .ref 301, .ref 302, .int 596 0, .int 127 0, .str "/claim/cut.py" 597], #[]⟩
noncomputable def b304 (P : Params) : Obj := ⟨.type "function", none, .func ⟨"cut_length", "cut_length", dP (sA 18), dB (sA 18), dS (sA 18), 3, [], .none, .none, .none, .str "grammarmill.lexmake" 459, none, .ref 303, .none, 0⟩, #[]⟩
noncomputable def b307 (P : Params) : Obj := ⟨.type "tuple", none, .seq #[.str "cut" 602, .str "numbers" 603, .str "count" 604, .str "fits_from" 605, .str "state" 606, .str "place" 607, .str "best" 608] 0, #[]⟩
noncomputable def b309 (P : Params) : Obj := ⟨.none, none, .func ⟨"searched_cut", "searched_cut", dP (sA 19), dB (sA 19), dS (sA 19), 0, [], .none, .none, .none, .none, none, .none, .none, 0⟩, #[]⟩
noncomputable def b310 (P : Params) : Obj := ⟨.type "code", none, .fields #[.str "searched_cut" 599, .str "searched_cut" 600, .str "/claim/cut.py" 601, .int 136 0, .int 2 0, .int 0 0, .int 0 0, .int 3 0, .ref 305, .bool true, .int 181 0, .ref 306, .none, .ref 307, .ref 308, .ref 309, .int 609 0, .int 136 0, .str "/claim/cut.py" 610], #[]⟩
noncomputable def b311 (P : Params) : Obj := ⟨.type "function", none, .func ⟨"searched_cut", "searched_cut", dP (sA 19), dB (sA 19), dS (sA 19), 3, [], .none, .none, .none, .str "grammarmill.lexmake" 459, none, .ref 310, .none, 0⟩, #[]⟩
noncomputable def b314 (P : Params) : Obj := ⟨.type "dict", none, .dict #[ee P "__module__" 621 (.str "grammarmill.scanner" 612), ee P "__qualname__" 623 (.str "Reader" 622), ee P "__firstlineno__" 625 (.int 153 624), ee P "__init__" 636 (.ref 325), ee P "candidates" 644 (.ref 332), ee P "steps" 652 (.ref 339), ee P "end_rule" 660 (.ref 346), ee P "begins" 668 (.ref 353), ee P "yytext" 675 (.ref 360), ee P "token" 683 (.ref 367), ee P "tick" 690 (.ref 374), ee P "place" 697 (.ref 381), ee P "next_token" 706 (.ref 388), ee P "tokens" 714 (.ref 395), ee P "open_match" 721 (.ref 402), ee P "turn" 733 (.ref 409), ee P "end_turn" 744 (.ref 416), ee P "perform" 754 (.ref 423), ee P "do_step" 764 (.ref 430), ee P "__static_attributes__" 778 (.ref 431)] 20, #[]⟩
noncomputable def b316 (P : Params) : Obj := ⟨.none, none, .fields #[.int 155 0, .int 4 0, .ref 324, .int 170 0, .int 4 0, .ref 331, .int 173 0, .int 4 0, .ref 338, .int 176 0, .int 4 0, .ref 345, .int 179 0, .int 4 0, .ref 352, .int 184 0, .int 4 0, .ref 359, .int 187 0, .int 4 0, .ref 366, .int 190 0, .int 4 0, .ref 373, .int 195 0, .int 4 0, .ref 380, .int 198 0, .int 4 0, .ref 387, .int 210 0, .int 4 0, .ref 394, .int 216 0, .int 4 0, .ref 401, .int 222 0, .int 4 0, .ref 408, .int 238 0, .int 4 0, .ref 415, .int 246 0, .int 4 0, .ref 422, .int 257 0, .int 4 0, .ref 429], #[]⟩
noncomputable def b317 (P : Params) : Obj := ⟨.type "code", none, .fields #[.str "Reader" 616, .str "Reader" 617, .str "/claim/cut.py" 618, .int 153 0, .int 0 0, .int 0 0, .int 0 0, .int 0 0, .ref 315, .bool false, .int 181 0, .ref 316, .none, .none, .none, .none, .int 619 0, .int 153 0, .str "/claim/cut.py" 620], #[]⟩
noncomputable def b318 (P : Params) : Obj := ⟨.type "frame", none, .plain, #[some (.ref 317), some (.ref 3), some (.ref 314), none, some (.str "grammarmill.scanner" 612), none, some (.ref 0)]⟩
noncomputable def b321 (P : Params) : Obj := ⟨.type "tuple", none, .seq #[.str "self" 629, .str "text" 630, .str "names" 631, .str "has_default" 632, .str "most" 633] 0, #[]⟩
noncomputable def b323 (P : Params) : Obj := ⟨.none, none, .func ⟨"__init__", "Reader.__init__", dP (sB 21 0), dB (sB 21 0), dS (sB 21 0), 0, [], .none, .none, .none, .none, none, .none, .none, 0⟩, #[]⟩
noncomputable def b324 (P : Params) : Obj := ⟨.type "code", none, .fields #[.str "__init__" 626, .str "Reader.__init__" 627, .str "/claim/cut.py" 628, .int 155 0, .int 5 0, .int 0 0, .int 0 0, .int 3 0, .ref 319, .bool true, .int 181 0, .ref 320, .none, .ref 321, .ref 322, .ref 323, .int 634 0, .int 155 0, .str "/claim/cut.py" 635], #[]⟩
noncomputable def b325 (P : Params) : Obj := ⟨.type "function", none, .func ⟨"__init__", "Reader.__init__", dP (sB 21 0), dB (sB 21 0), dS (sB 21 0), 3, [], .none, .none, .none, .str "grammarmill.scanner" 612, none, .ref 324, .none, 0⟩, #[]⟩
noncomputable def b328 (P : Params) : Obj := ⟨.type "tuple", none, .seq #[.str "self" 640, .str "start" 641] 0, #[]⟩
noncomputable def b330 (P : Params) : Obj := ⟨.none, none, .func ⟨"candidates", "Reader.candidates", dP (sB 21 1), dB (sB 21 1), dS (sB 21 1), 0, [], .none, .none, .none, .none, none, .none, .none, 0⟩, #[]⟩
noncomputable def b331 (P : Params) : Obj := ⟨.type "code", none, .fields #[.str "candidates" 637, .str "Reader.candidates" 638, .str "/claim/cut.py" 639, .int 170 0, .int 2 0, .int 0 0, .int 0 0, .int 3 0, .ref 326, .bool true, .int 181 0, .ref 327, .none, .ref 328, .ref 329, .ref 330, .int 642 0, .int 170 0, .str "/claim/cut.py" 643], #[]⟩
noncomputable def b332 (P : Params) : Obj := ⟨.type "function", none, .func ⟨"candidates", "Reader.candidates", dP (sB 21 1), dB (sB 21 1), dS (sB 21 1), 3, [], .none, .none, .none, .str "grammarmill.scanner" 612, none, .ref 331, .none, 0⟩, #[]⟩
noncomputable def b335 (P : Params) : Obj := ⟨.type "tuple", none, .seq #[.str "self" 648, .str "number" 649] 0, #[]⟩
noncomputable def b337 (P : Params) : Obj := ⟨.none, none, .func ⟨"steps", "Reader.steps", dP (sB 21 2), dB (sB 21 2), dS (sB 21 2), 0, [], .none, .none, .none, .none, none, .none, .none, 0⟩, #[]⟩
noncomputable def b338 (P : Params) : Obj := ⟨.type "code", none, .fields #[.str "steps" 645, .str "Reader.steps" 646, .str "/claim/cut.py" 647, .int 173 0, .int 2 0, .int 0 0, .int 0 0, .int 3 0, .ref 333, .bool true, .int 181 0, .ref 334, .none, .ref 335, .ref 336, .ref 337, .int 650 0, .int 173 0, .str "/claim/cut.py" 651], #[]⟩
noncomputable def b339 (P : Params) : Obj := ⟨.type "function", none, .func ⟨"steps", "Reader.steps", dP (sB 21 2), dB (sB 21 2), dS (sB 21 2), 3, [], .none, .none, .none, .str "grammarmill.scanner" 612, none, .ref 338, .none, 0⟩, #[]⟩
noncomputable def b342 (P : Params) : Obj := ⟨.type "tuple", none, .seq #[.str "self" 656, .str "condition" 657] 0, #[]⟩
noncomputable def b344 (P : Params) : Obj := ⟨.none, none, .func ⟨"end_rule", "Reader.end_rule", dP (sB 21 3), dB (sB 21 3), dS (sB 21 3), 0, [], .none, .none, .none, .none, none, .none, .none, 0⟩, #[]⟩
noncomputable def b345 (P : Params) : Obj := ⟨.type "code", none, .fields #[.str "end_rule" 653, .str "Reader.end_rule" 654, .str "/claim/cut.py" 655, .int 176 0, .int 2 0, .int 0 0, .int 0 0, .int 3 0, .ref 340, .bool true, .int 181 0, .ref 341, .none, .ref 342, .ref 343, .ref 344, .int 658 0, .int 176 0, .str "/claim/cut.py" 659], #[]⟩
noncomputable def b346 (P : Params) : Obj := ⟨.type "function", none, .func ⟨"end_rule", "Reader.end_rule", dP (sB 21 3), dB (sB 21 3), dS (sB 21 3), 3, [], .none, .none, .none, .str "grammarmill.scanner" 612, none, .ref 345, .none, 0⟩, #[]⟩
noncomputable def b349 (P : Params) : Obj := ⟨.type "tuple", none, .seq #[.str "self" 664, .str "offset" 665] 0, #[]⟩
noncomputable def b351 (P : Params) : Obj := ⟨.none, none, .func ⟨"begins", "Reader.begins", dP (sB 21 4), dB (sB 21 4), dS (sB 21 4), 0, [], .none, .none, .none, .none, none, .none, .none, 0⟩, #[]⟩
noncomputable def b352 (P : Params) : Obj := ⟨.type "code", none, .fields #[.str "begins" 661, .str "Reader.begins" 662, .str "/claim/cut.py" 663, .int 179 0, .int 2 0, .int 0 0, .int 0 0, .int 3 0, .ref 347, .bool true, .int 181 0, .ref 348, .none, .ref 349, .ref 350, .ref 351, .int 666 0, .int 179 0, .str "/claim/cut.py" 667], #[]⟩
noncomputable def b353 (P : Params) : Obj := ⟨.type "function", none, .func ⟨"begins", "Reader.begins", dP (sB 21 4), dB (sB 21 4), dS (sB 21 4), 3, [], .none, .none, .none, .str "grammarmill.scanner" 612, none, .ref 352, .none, 0⟩, #[]⟩
noncomputable def b356 (P : Params) : Obj := ⟨.type "tuple", none, .seq #[.str "self" 672] 0, #[]⟩
noncomputable def b358 (P : Params) : Obj := ⟨.none, none, .func ⟨"yytext", "Reader.yytext", dP (sB 21 5), dB (sB 21 5), dS (sB 21 5), 0, [], .none, .none, .none, .none, none, .none, .none, 0⟩, #[]⟩
noncomputable def b359 (P : Params) : Obj := ⟨.type "code", none, .fields #[.str "yytext" 669, .str "Reader.yytext" 670, .str "/claim/cut.py" 671, .int 184 0, .int 1 0, .int 0 0, .int 0 0, .int 3 0, .ref 354, .bool true, .int 181 0, .ref 355, .none, .ref 356, .ref 357, .ref 358, .int 673 0, .int 184 0, .str "/claim/cut.py" 674], #[]⟩
noncomputable def b360 (P : Params) : Obj := ⟨.type "function", none, .func ⟨"yytext", "Reader.yytext", dP (sB 21 5), dB (sB 21 5), dS (sB 21 5), 3, [], .none, .none, .none, .str "grammarmill.scanner" 612, none, .ref 359, .none, 0⟩, #[]⟩
noncomputable def b363 (P : Params) : Obj := ⟨.type "tuple", none, .seq #[.str "self" 679, .str "kind" 680] 0, #[]⟩
noncomputable def b365 (P : Params) : Obj := ⟨.none, none, .func ⟨"token", "Reader.token", dP (sB 21 6), dB (sB 21 6), dS (sB 21 6), 0, [], .none, .none, .none, .none, none, .none, .none, 0⟩, #[]⟩
noncomputable def b366 (P : Params) : Obj := ⟨.type "code", none, .fields #[.str "token" 676, .str "Reader.token" 677, .str "/claim/cut.py" 678, .int 187 0, .int 2 0, .int 0 0, .int 0 0, .int 3 0, .ref 361, .bool true, .int 181 0, .ref 362, .none, .ref 363, .ref 364, .ref 365, .int 681 0, .int 187 0, .str "/claim/cut.py" 682], #[]⟩
noncomputable def b367 (P : Params) : Obj := ⟨.type "function", none, .func ⟨"token", "Reader.token", dP (sB 21 6), dB (sB 21 6), dS (sB 21 6), 3, [], .none, .none, .none, .str "grammarmill.scanner" 612, none, .ref 366, .none, 0⟩, #[]⟩
noncomputable def b370 (P : Params) : Obj := ⟨.type "tuple", none, .seq #[.str "self" 687] 0, #[]⟩
noncomputable def b372 (P : Params) : Obj := ⟨.none, none, .func ⟨"tick", "Reader.tick", dP (sB 21 7), dB (sB 21 7), dS (sB 21 7), 0, [], .none, .none, .none, .none, none, .none, .none, 0⟩, #[]⟩
noncomputable def b373 (P : Params) : Obj := ⟨.type "code", none, .fields #[.str "tick" 684, .str "Reader.tick" 685, .str "/claim/cut.py" 686, .int 190 0, .int 1 0, .int 0 0, .int 0 0, .int 3 0, .ref 368, .bool true, .int 181 0, .ref 369, .none, .ref 370, .ref 371, .ref 372, .int 688 0, .int 190 0, .str "/claim/cut.py" 689], #[]⟩
noncomputable def b374 (P : Params) : Obj := ⟨.type "function", none, .func ⟨"tick", "Reader.tick", dP (sB 21 7), dB (sB 21 7), dS (sB 21 7), 3, [], .none, .none, .none, .str "grammarmill.scanner" 612, none, .ref 373, .none, 0⟩, #[]⟩
noncomputable def b377 (P : Params) : Obj := ⟨.type "tuple", none, .seq #[.str "self" 694] 0, #[]⟩
noncomputable def b379 (P : Params) : Obj := ⟨.none, none, .func ⟨"place", "Reader.place", dP (sB 21 8), dB (sB 21 8), dS (sB 21 8), 0, [], .none, .none, .none, .none, none, .none, .none, 0⟩, #[]⟩
noncomputable def b380 (P : Params) : Obj := ⟨.type "code", none, .fields #[.str "place" 691, .str "Reader.place" 692, .str "/claim/cut.py" 693, .int 195 0, .int 1 0, .int 0 0, .int 0 0, .int 3 0, .ref 375, .bool true, .int 181 0, .ref 376, .none, .ref 377, .ref 378, .ref 379, .int 695 0, .int 195 0, .str "/claim/cut.py" 696], #[]⟩
noncomputable def b381 (P : Params) : Obj := ⟨.type "function", none, .func ⟨"place", "Reader.place", dP (sB 21 8), dB (sB 21 8), dS (sB 21 8), 3, [], .none, .none, .none, .str "grammarmill.scanner" 612, none, .ref 380, .none, 0⟩, #[]⟩
noncomputable def b384 (P : Params) : Obj := ⟨.type "tuple", none, .seq #[.str "self" 701, .str "token" 702, .str "number" 703] 0, #[]⟩
noncomputable def b386 (P : Params) : Obj := ⟨.none, none, .func ⟨"next_token", "Reader.next_token", dP (sB 21 9), dB (sB 21 9), dS (sB 21 9), 0, [], .none, .none, .none, .none, none, .none, .none, 0⟩, #[]⟩
noncomputable def b387 (P : Params) : Obj := ⟨.type "code", none, .fields #[.str "next_token" 698, .str "Reader.next_token" 699, .str "/claim/cut.py" 700, .int 198 0, .int 1 0, .int 0 0, .int 0 0, .int 3 0, .ref 382, .bool true, .int 181 0, .ref 383, .none, .ref 384, .ref 385, .ref 386, .int 704 0, .int 198 0, .str "/claim/cut.py" 705], #[]⟩
noncomputable def b388 (P : Params) : Obj := ⟨.type "function", none, .func ⟨"next_token", "Reader.next_token", dP (sB 21 9), dB (sB 21 9), dS (sB 21 9), 3, [], .none, .none, .none, .str "grammarmill.scanner" 612, none, .ref 387, .none, 0⟩, #[]⟩
noncomputable def b391 (P : Params) : Obj := ⟨.type "tuple", none, .seq #[.str "self" 710, .str "result" 711] 0, #[]⟩
noncomputable def b393 (P : Params) : Obj := ⟨.none, none, .func ⟨"tokens", "Reader.tokens", dP (sB 21 10), dB (sB 21 10), dS (sB 21 10), 0, [], .none, .none, .none, .none, none, .none, .none, 0⟩, #[]⟩
noncomputable def b394 (P : Params) : Obj := ⟨.type "code", none, .fields #[.str "tokens" 707, .str "Reader.tokens" 708, .str "/claim/cut.py" 709, .int 210 0, .int 1 0, .int 0 0, .int 0 0, .int 3 0, .ref 389, .bool true, .int 181 0, .ref 390, .none, .ref 391, .ref 392, .ref 393, .int 712 0, .int 210 0, .str "/claim/cut.py" 713], #[]⟩
noncomputable def b395 (P : Params) : Obj := ⟨.type "function", none, .func ⟨"tokens", "Reader.tokens", dP (sB 21 10), dB (sB 21 10), dS (sB 21 10), 3, [], .none, .none, .none, .str "grammarmill.scanner" 612, none, .ref 394, .none, 0⟩, #[]⟩
noncomputable def b398 (P : Params) : Obj := ⟨.type "tuple", none, .seq #[.str "self" 718] 0, #[]⟩
noncomputable def b400 (P : Params) : Obj := ⟨.none, none, .func ⟨"open_match", "Reader.open_match", dP (sB 21 11), dB (sB 21 11), dS (sB 21 11), 0, [], .none, .none, .none, .none, none, .none, .none, 0⟩, #[]⟩
noncomputable def b401 (P : Params) : Obj := ⟨.type "code", none, .fields #[.str "open_match" 715, .str "Reader.open_match" 716, .str "/claim/cut.py" 717, .int 216 0, .int 1 0, .int 0 0, .int 0 0, .int 3 0, .ref 396, .bool true, .int 181 0, .ref 397, .none, .ref 398, .ref 399, .ref 400, .int 719 0, .int 216 0, .str "/claim/cut.py" 720], #[]⟩
noncomputable def b402 (P : Params) : Obj := ⟨.type "function", none, .func ⟨"open_match", "Reader.open_match", dP (sB 21 11), dB (sB 21 11), dS (sB 21 11), 3, [], .none, .none, .none, .str "grammarmill.scanner" 612, none, .ref 401, .none, 0⟩, #[]⟩
noncomputable def b405 (P : Params) : Obj := ⟨.type "tuple", none, .seq #[.str "self" 725, .str "start" 726, .str "end" 727, .str "number" 728, .str "is_rejected" 729, .str "token" 730] 0, #[]⟩
noncomputable def b407 (P : Params) : Obj := ⟨.none, none, .func ⟨"turn", "Reader.turn", dP (sB 21 12), dB (sB 21 12), dS (sB 21 12), 0, [], .none, .none, .none, .none, none, .none, .none, 0⟩, #[]⟩
noncomputable def b408 (P : Params) : Obj := ⟨.type "code", none, .fields #[.str "turn" 722, .str "Reader.turn" 723, .str "/claim/cut.py" 724, .int 222 0, .int 1 0, .int 0 0, .int 0 0, .int 3 0, .ref 403, .bool true, .int 181 0, .ref 404, .none, .ref 405, .ref 406, .ref 407, .int 731 0, .int 222 0, .str "/claim/cut.py" 732], #[]⟩
noncomputable def b409 (P : Params) : Obj := ⟨.type "function", none, .func ⟨"turn", "Reader.turn", dP (sB 21 12), dB (sB 21 12), dS (sB 21 12), 3, [], .none, .none, .none, .str "grammarmill.scanner" 612, none, .ref 408, .none, 0⟩, #[]⟩
noncomputable def b412 (P : Params) : Obj := ⟨.type "tuple", none, .seq #[.str "self" 737, .str "number" 738, .str "before" 739, .str "is_rejected" 740, .str "token" 741] 0, #[]⟩
noncomputable def b414 (P : Params) : Obj := ⟨.none, none, .func ⟨"end_turn", "Reader.end_turn", dP (sB 21 13), dB (sB 21 13), dS (sB 21 13), 0, [], .none, .none, .none, .none, none, .none, .none, 0⟩, #[]⟩
noncomputable def b415 (P : Params) : Obj := ⟨.type "code", none, .fields #[.str "end_turn" 734, .str "Reader.end_turn" 735, .str "/claim/cut.py" 736, .int 238 0, .int 2 0, .int 0 0, .int 0 0, .int 3 0, .ref 410, .bool true, .int 181 0, .ref 411, .none, .ref 412, .ref 413, .ref 414, .int 742 0, .int 238 0, .str "/claim/cut.py" 743], #[]⟩
noncomputable def b416 (P : Params) : Obj := ⟨.type "function", none, .func ⟨"end_turn", "Reader.end_turn", dP (sB 21 13), dB (sB 21 13), dS (sB 21 13), 3, [], .none, .none, .none, .str "grammarmill.scanner" 612, none, .ref 415, .none, 0⟩, #[]⟩
noncomputable def b419 (P : Params) : Obj := ⟨.type "tuple", none, .seq #[.str "self" 748, .str "number" 749, .str "start" 750, .str "step" 751] 0, #[]⟩
noncomputable def b421 (P : Params) : Obj := ⟨.none, none, .func ⟨"perform", "Reader.perform", dP (sB 21 14), dB (sB 21 14), dS (sB 21 14), 0, [], .none, .none, .none, .none, none, .none, .none, 0⟩, #[]⟩
noncomputable def b422 (P : Params) : Obj := ⟨.type "code", none, .fields #[.str "perform" 745, .str "Reader.perform" 746, .str "/claim/cut.py" 747, .int 246 0, .int 3 0, .int 0 0, .int 0 0, .int 3 0, .ref 417, .bool true, .int 181 0, .ref 418, .none, .ref 419, .ref 420, .ref 421, .int 752 0, .int 246 0, .str "/claim/cut.py" 753], #[]⟩
noncomputable def b423 (P : Params) : Obj := ⟨.type "function", none, .func ⟨"perform", "Reader.perform", dP (sB 21 14), dB (sB 21 14), dS (sB 21 14), 3, [], .none, .none, .none, .str "grammarmill.scanner" 612, none, .ref 422, .none, 0⟩, #[]⟩
noncomputable def b426 (P : Params) : Obj := ⟨.type "tuple", none, .seq #[.str "self" 758, .str "word" 759, .str "worth" 760, .str "start" 761] 0, #[]⟩
noncomputable def b428 (P : Params) : Obj := ⟨.none, none, .func ⟨"do_step", "Reader.do_step", dP (sB 21 15), dB (sB 21 15), dS (sB 21 15), 0, [], .none, .none, .none, .none, none, .none, .none, 0⟩, #[]⟩
noncomputable def b429 (P : Params) : Obj := ⟨.type "code", none, .fields #[.str "do_step" 755, .str "Reader.do_step" 756, .str "/claim/cut.py" 757, .int 257 0, .int 4 0, .int 0 0, .int 0 0, .int 3 0, .ref 424, .bool true, .int 181 0, .ref 425, .none, .ref 426, .ref 427, .ref 428, .int 762 0, .int 257 0, .str "/claim/cut.py" 763], #[]⟩
noncomputable def b430 (P : Params) : Obj := ⟨.type "function", none, .func ⟨"do_step", "Reader.do_step", dP (sB 21 15), dB (sB 21 15), dS (sB 21 15), 3, [], .none, .none, .none, .str "grammarmill.scanner" 612, none, .ref 429, .none, 0⟩, #[]⟩
noncomputable def b431 (P : Params) : Obj := ⟨.type "tuple", none, .seq #[.str "at" 765, .str "began" 766, .str "condition" 767, .str "count" 768, .str "echoed" 769, .str "has_default" 770, .str "is_ended" 771, .str "is_kept" 772, .str "most" 773, .str "names" 774, .str "pile" 775, .str "text" 776, .str "turns" 777] 0, #[]⟩
noncomputable def b432 (P : Params) : Obj := ⟨.type "dict", none, .dict #[ee P "__module__" 621 (.str "grammarmill.scanner" 612), ee P "__firstlineno__" 625 (.int 153 624), ee P "__init__" 636 (.ref 325), ee P "candidates" 644 (.ref 332), ee P "steps" 652 (.ref 339), ee P "end_rule" 660 (.ref 346), ee P "begins" 668 (.ref 353), ee P "yytext" 675 (.ref 360), ee P "token" 683 (.ref 367), ee P "tick" 690 (.ref 374), ee P "place" 697 (.ref 381), ee P "next_token" 706 (.ref 388), ee P "tokens" 714 (.ref 395), ee P "open_match" 721 (.ref 402), ee P "turn" 733 (.ref 409), ee P "end_turn" 744 (.ref 416), ee P "perform" 754 (.ref 423), ee P "do_step" 764 (.ref 430), ee P "__static_attributes__" 778 (.ref 431), ee P "__dict__" 780 (.ref 434), ee P "__weakref__" 782 (.ref 435), ee P "__doc__" 783 .none] 4, #[]⟩
noncomputable def b433 (P : Params) : Obj := ⟨.type "type", none, .cls { name := "Reader", bases := [.type "object"], mro := [.ref 433, .type "object"], ns := 432, qualname := "Reader", hasDict := true, slotNames := [], subclasses := [], abstract := false, collection := none, hasDel := false }, #[none, none, some (.str "Reader" 614), some (.str "Reader" 622), some (.builtin "object.__new__"), some (.bool true)]⟩
noncomputable def b434 (P : Params) : Obj := ⟨.type "getset_descriptor", none, .fields #[.str "__dict__" 779, .ref 433, .builtin "function.__dict__", .builtin "function.__dict__#set"], #[]⟩
noncomputable def b435 (P : Params) : Obj := ⟨.type "getset_descriptor", none, .fields #[.str "__weakref__" 781, .ref 433, .builtin "ExceptionGroup.__weakref__", .none], #[]⟩
noncomputable def b436 (P : Params) : Obj := ⟨.type "super", none, .fields #[.ref 433, .ref 433, .ref 433], #[]⟩
noncomputable def b437 (P : Params) : Obj := ⟨.type "builtin_function_or_method", none, .fields #[.builtin "object.__init_subclass__", .ref 433], #[]⟩
noncomputable def b3x4 (P : Params) : Obj := ⟨.type "dict", none, .dict #[ee P "__name__" 165 (.str "grammarmill.scanner" 612), ee P "__doc__" 166 .none, ee P "__package__" 167 .none, ee P "__loader__" 168 (.builtin "__main__.__loader__#opaque"), ee P "__spec__" 169 .none, ee P "__annotations__" 170 (.ref 6), ee P "__builtins__" 171 (.ref 4), ee P "__file__" 173 (.str "/claim/cut.py" 172), ee P "__cached__" 174 .none, ee P "_wall" 193 (.ref 21), ee P "Position" 235 (.ref 45), ee P "position_of" 247 (.ref 56), ee P "ToolError" 285 (.ref 81), ee P "TableError" 301 (.ref 94), ee P "ScanError" 317 (.ref 106), ee P "Token" 366 (.ref 140), ee P "end_token" 373 (.ref 151), ee P "DEAD" 378 (.int (-1) 377), ee P "Dfa" 445 (.ref 201), ee P "endings" 458 (.ref 213), ee P "Cut" 495 (.ref 230), ee P "LexTables" 571 (.ref 279), ee P "any_reject" 580 (.ref 290), ee P "is_final" 588 (.ref 297), ee P "cut_length" 598 (.ref 304), ee P "searched_cut" 611 (.ref 311), ee P "Reader" 785 (.ref 433), ee P "Scanner" 845 (.ref 476), ee P "trace" 860 (.ref 485)] 29, #[]⟩
noncomputable def b12x4 (P : Params) : Obj := ⟨.none, none, .fields #[.int 1 0, .int 0 0, .ref 20, .int 5 0, .int 0 0, .ref 27, .int 14 0, .int 0 0, .ref 55, .int 23 0, .int 0 0, .ref 62, .int 34 0, .int 0 0, .ref 90, .int 36 0, .int 0 0, .ref 102, .int 38 0, .int 0 0, .ref 114, .int 51 0, .int 0 0, .ref 150, .int 55 0, .int 0 0, .ref 157, .int 77 0, .int 0 0, .ref 212, .int 88 0, .int 0 0, .ref 219, .int 95 0, .int 0 0, .ref 240, .int 119 0, .int 0 0, .ref 289, .int 125 0, .int 0 0, .ref 296, .int 127 0, .int 0 0, .ref 303, .int 136 0, .int 0 0, .ref 310, .int 153 0, .int 0 0, .ref 317, .int 273 0, .int 0 0, .ref 443, .int 298 0, .int 0 0, .ref 484], #[]⟩
noncomputable def b433x4 (P : Params) : Obj := ⟨.type "type", none, .cls { name := "Reader", bases := [.type "object"], mro := [.ref 433, .type "object"], ns := 432, qualname := "Reader", hasDict := true, slotNames := [], subclasses := [.ref 476], abstract := false, collection := none, hasDel := false }, #[none, none, some (.str "Reader" 614), some (.str "Reader" 622), some (.builtin "object.__new__"), some (.bool true)]⟩
noncomputable def b438 (P : Params) : Obj := ⟨.type "tuple", none, .seq #[.ref 433] 0, #[]⟩
noncomputable def b440 (P : Params) : Obj := ⟨.type "dict", none, .dict #[ee P "__module__" 793 (.str "grammarmill.scanner" 612), ee P "__qualname__" 795 (.str "Scanner" 794), ee P "__firstlineno__" 797 (.int 273 796), ee P "__init__" 808 (.ref 452), ee P "candidates" 823 (.ref 459), ee P "steps" 831 (.ref 466), ee P "end_rule" 839 (.ref 473), ee P "__static_attributes__" 842 (.ref 474)] 8, #[]⟩
noncomputable def b442 (P : Params) : Obj := ⟨.none, none, .fields #[.int 275 0, .int 4 0, .ref 451, .int 280 0, .int 4 0, .ref 458, .int 293 0, .int 4 0, .ref 465, .int 296 0, .int 4 0, .ref 472], #[]⟩
noncomputable def b443 (P : Params) : Obj := ⟨.type "code", none, .fields #[.str "Scanner" 788, .str "Scanner" 789, .str "/claim/cut.py" 790, .int 273 0, .int 0 0, .int 0 0, .int 0 0, .int 0 0, .ref 441, .bool false, .int 181 0, .ref 442, .none, .none, .none, .none, .int 791 0, .int 273 0, .str "/claim/cut.py" 792], #[]⟩
noncomputable def b444 (P : Params) : Obj := ⟨.type "frame", none, .plain, #[some (.ref 443), some (.ref 3), some (.ref 440), none, some (.str "grammarmill.scanner" 612), none, some (.ref 0)]⟩
noncomputable def b445 (P : Params) : Obj := ⟨.type "tuple", none, .seq #[.int 2000 798] 0, #[]⟩
noncomputable def b448 (P : Params) : Obj := ⟨.type "tuple", none, .seq #[.str "self" 802, .str "tables" 803, .str "text" 804, .str "most" 805] 0, #[]⟩
noncomputable def b450 (P : Params) : Obj := ⟨.none, none, .func ⟨"__init__", "Scanner.__init__", dP (sB 22 0), dB (sB 22 0), dS (sB 22 0), 0, [], .none, .none, .none, .none, none, .none, .none, 0⟩, #[]⟩
noncomputable def b451 (P : Params) : Obj := ⟨.type "code", none, .fields #[.str "__init__" 799, .str "Scanner.__init__" 800, .str "/claim/cut.py" 801, .int 275 0, .int 4 0, .int 0 0, .int 0 0, .int 3 0, .ref 446, .bool true, .int 181 0, .ref 447, .none, .ref 448, .ref 449, .ref 450, .int 806 0, .int 275 0, .str "/claim/cut.py" 807], #[]⟩
noncomputable def b452 (P : Params) : Obj := ⟨.type "function", none, .func ⟨"__init__", "Scanner.__init__", dP (sB 22 0), dB (sB 22 0), dS (sB 22 0), 3, [], .ref 445, .none, .none, .str "grammarmill.scanner" 612, none, .ref 451, .none, 0⟩, #[]⟩
noncomputable def b455 (P : Params) : Obj := ⟨.type "tuple", none, .seq #[.str "self" 812, .str "start" 813, .str "automaton" 814, .str "result" 815, .str "end" 816, .str "tags" 817, .str "matched" 818, .str "number" 819, .str "length" 820] 0, #[]⟩
noncomputable def b457 (P : Params) : Obj := ⟨.none, none, .func ⟨"candidates", "Scanner.candidates", dP (sB 22 1), dB (sB 22 1), dS (sB 22 1), 0, [], .none, .none, .none, .none, none, .none, .none, 0⟩, #[]⟩
noncomputable def b458 (P : Params) : Obj := ⟨.type "code", none, .fields #[.str "candidates" 809, .str "Scanner.candidates" 810, .str "/claim/cut.py" 811, .int 280 0, .int 2 0, .int 0 0, .int 0 0, .int 3 0, .ref 453, .bool true, .int 181 0, .ref 454, .none, .ref 455, .ref 456, .ref 457, .int 821 0, .int 280 0, .str "/claim/cut.py" 822], #[]⟩
noncomputable def b459 (P : Params) : Obj := ⟨.type "function", none, .func ⟨"candidates", "Scanner.candidates", dP (sB 22 1), dB (sB 22 1), dS (sB 22 1), 3, [], .none, .none, .none, .str "grammarmill.scanner" 612, none, .ref 458, .none, 0⟩, #[]⟩
noncomputable def b462 (P : Params) : Obj := ⟨.type "tuple", none, .seq #[.str "self" 827, .str "number" 828] 0, #[]⟩
noncomputable def b464 (P : Params) : Obj := ⟨.none, none, .func ⟨"steps", "Scanner.steps", dP (sB 22 2), dB (sB 22 2), dS (sB 22 2), 0, [], .none, .none, .none, .none, none, .none, .none, 0⟩, #[]⟩
noncomputable def b465 (P : Params) : Obj := ⟨.type "code", none, .fields #[.str "steps" 824, .str "Scanner.steps" 825, .str "/claim/cut.py" 826, .int 293 0, .int 2 0, .int 0 0, .int 0 0, .int 3 0, .ref 460, .bool true, .int 181 0, .ref 461, .none, .ref 462, .ref 463, .ref 464, .int 829 0, .int 293 0, .str "/claim/cut.py" 830], #[]⟩
noncomputable def b466 (P : Params) : Obj := ⟨.type "function", none, .func ⟨"steps", "Scanner.steps", dP (sB 22 2), dB (sB 22 2), dS (sB 22 2), 3, [], .none, .none, .none, .str "grammarmill.scanner" 612, none, .ref 465, .none, 0⟩, #[]⟩
noncomputable def b469 (P : Params) : Obj := ⟨.type "tuple", none, .seq #[.str "self" 835, .str "condition" 836] 0, #[]⟩
noncomputable def b471 (P : Params) : Obj := ⟨.none, none, .func ⟨"end_rule", "Scanner.end_rule", dP (sB 22 3), dB (sB 22 3), dS (sB 22 3), 0, [], .none, .none, .none, .none, none, .none, .none, 0⟩, #[]⟩
noncomputable def b472 (P : Params) : Obj := ⟨.type "code", none, .fields #[.str "end_rule" 832, .str "Scanner.end_rule" 833, .str "/claim/cut.py" 834, .int 296 0, .int 2 0, .int 0 0, .int 0 0, .int 3 0, .ref 467, .bool true, .int 181 0, .ref 468, .none, .ref 469, .ref 470, .ref 471, .int 837 0, .int 296 0, .str "/claim/cut.py" 838], #[]⟩
noncomputable def b473 (P : Params) : Obj := ⟨.type "function", none, .func ⟨"end_rule", "Scanner.end_rule", dP (sB 22 3), dB (sB 22 3), dS (sB 22 3), 3, [], .none, .none, .none, .str "grammarmill.scanner" 612, none, .ref 472, .none, 0⟩, #[]⟩
noncomputable def b474 (P : Params) : Obj := ⟨.type "tuple", none, .seq #[.str "numbers" 840, .str "tables" 841] 0, #[]⟩
noncomputable def b475 (P : Params) : Obj := ⟨.type "dict", none, .dict #[ee P "__module__" 793 (.str "grammarmill.scanner" 612), ee P "__firstlineno__" 797 (.int 273 796), ee P "__init__" 808 (.ref 452), ee P "candidates" 823 (.ref 459), ee P "steps" 831 (.ref 466), ee P "end_rule" 839 (.ref 473), ee P "__static_attributes__" 842 (.ref 474), ee P "__doc__" 843 .none] 2, #[]⟩
noncomputable def b476 (P : Params) : Obj := ⟨.type "type", none, .cls { name := "Scanner", bases := [.ref 433], mro := [.ref 476, .ref 433, .type "object"], ns := 475, qualname := "Scanner", hasDict := true, slotNames := [], subclasses := [], abstract := false, collection := none, hasDel := false }, #[some (.ref 438), none, some (.str "Scanner" 786), some (.str "Scanner" 794), some (.builtin "object.__new__"), some (.bool true)]⟩
noncomputable def b477 (P : Params) : Obj := ⟨.type "super", none, .fields #[.ref 476, .ref 476, .ref 476], #[]⟩
noncomputable def b478 (P : Params) : Obj := ⟨.type "builtin_function_or_method", none, .fields #[.builtin "object.__init_subclass__", .ref 476], #[]⟩
noncomputable def b481 (P : Params) : Obj := ⟨.type "tuple", none, .seq #[.str "tables" 849, .str "text" 850, .str "scanner" 851, .str "tokens" 852, .str "lines" 853, .str "number" 854, .str "begin" 855, .str "end" 856, .str "part" 857] 0, #[]⟩
noncomputable def b483 (P : Params) : Obj := ⟨.none, none, .func ⟨"trace", "trace", dP (sA 23), dB (sA 23), dS (sA 23), 0, [], .none, .none, .none, .none, none, .none, .none, 0⟩, #[]⟩
noncomputable def b484 (P : Params) : Obj := ⟨.type "code", none, .fields #[.str "trace" 846, .str "trace" 847, .str "/claim/cut.py" 848, .int 298 0, .int 2 0, .int 0 0, .int 0 0, .int 3 0, .ref 479, .bool true, .int 181 0, .ref 480, .none, .ref 481, .ref 482, .ref 483, .int 858 0, .int 298 0, .str "/claim/cut.py" 859], #[]⟩
noncomputable def b485 (P : Params) : Obj := ⟨.type "function", none, .func ⟨"trace", "trace", dP (sA 23), dB (sA 23), dS (sA 23), 3, [], .none, .none, .none, .str "grammarmill.scanner" 612, none, .ref 484, .none, 0⟩, #[]⟩
noncomputable def b3x5 (P : Params) : Obj := ⟨.type "dict", none, .dict #[ee P "__name__" 165 (.str "grammarmill.charset" 861), ee P "__doc__" 166 .none, ee P "__package__" 167 .none, ee P "__loader__" 168 (.builtin "__main__.__loader__#opaque"), ee P "__spec__" 169 .none, ee P "__annotations__" 170 (.ref 6), ee P "__builtins__" 171 (.ref 4), ee P "__file__" 173 (.str "/claim/cut.py" 172), ee P "__cached__" 174 .none, ee P "_wall" 193 (.ref 21), ee P "Position" 235 (.ref 45), ee P "position_of" 247 (.ref 56), ee P "ToolError" 285 (.ref 81), ee P "TableError" 301 (.ref 94), ee P "ScanError" 317 (.ref 106), ee P "Token" 366 (.ref 140), ee P "end_token" 373 (.ref 151), ee P "DEAD" 378 (.int (-1) 377), ee P "Dfa" 445 (.ref 201), ee P "endings" 458 (.ref 213), ee P "Cut" 495 (.ref 230), ee P "LexTables" 571 (.ref 279), ee P "any_reject" 580 (.ref 290), ee P "is_final" 588 (.ref 297), ee P "cut_length" 598 (.ref 304), ee P "searched_cut" 611 (.ref 311), ee P "Reader" 785 (.ref 433), ee P "Scanner" 845 (.ref 476), ee P "trace" 860 (.ref 485), ee P "TOP" 864 (.int 127 863), ee P "CharSet" 1115 (.ref 651)] 31, #[]⟩
noncomputable def b12x5 (P : Params) : Obj := ⟨.none, none, .fields #[.int 1 0, .int 0 0, .ref 20, .int 5 0, .int 0 0, .ref 27, .int 14 0, .int 0 0, .ref 55, .int 23 0, .int 0 0, .ref 62, .int 34 0, .int 0 0, .ref 90, .int 36 0, .int 0 0, .ref 102, .int 38 0, .int 0 0, .ref 114, .int 51 0, .int 0 0, .ref 150, .int 55 0, .int 0 0, .ref 157, .int 77 0, .int 0 0, .ref 212, .int 88 0, .int 0 0, .ref 219, .int 95 0, .int 0 0, .ref 240, .int 119 0, .int 0 0, .ref 289, .int 125 0, .int 0 0, .ref 296, .int 127 0, .int 0 0, .ref 303, .int 136 0, .int 0 0, .ref 310, .int 153 0, .int 0 0, .ref 317, .int 273 0, .int 0 0, .ref 443, .int 298 0, .int 0 0, .ref 484, .int 314 0, .int 0 0, .ref 491], #[]⟩
noncomputable def b488 (P : Params) : Obj := ⟨.type "dict", none, .dict #[ee P "__module__" 872 (.str "grammarmill.charset" 861), ee P "__qualname__" 874 (.str "CharSet" 873), ee P "__firstlineno__" 876 (.int 314 875), ee P "__init__" 884 (.ref 499), ee P "none" 902 (.ref 508), ee P "every" 920 (.ref 518), ee P "dot" 938 (.ref 528), ee P "of" 956 (.ref 536), ee P "span" 976 (.ref 546), ee P "made" 1001 (.ref 556), ee P "has" 1014 (.ref 564), ee P "size" 1021 (.ref 571), ee P "codes" 1031 (.ref 578), ee P "least" 1038 (.ref 585), ee P "is_empty" 1045 (.ref 592), ee P "union" 1053 (.ref 599), ee P "meet" 1061 (.ref 606), ee P "complement" 1068 (.ref 613), ee P "minus" 1076 (.ref 620), ee P "same" 1084 (.ref 627), ee P "meets" 1092 (.ref 634), ee P "folded" 1099 (.ref 641), ee P "key" 1106 (.ref 648), ee P "__static_attributes__" 1108 (.ref 649)] 24, #[]⟩
noncomputable def b490 (P : Params) : Obj := ⟨.none, none, .fields #[.int 316 0, .int 4 0, .ref 498, .int 320 0, .int 4 0, .ref 505, .int 324 0, .int 4 0, .ref 515, .int 328 0, .int 4 0, .ref 525, .int 332 0, .int 4 0, .ref 533, .int 336 0, .int 4 0, .ref 543, .int 340 0, .int 4 0, .ref 553, .int 356 0, .int 4 0, .ref 563, .int 370 0, .int 4 0, .ref 570, .int 373 0, .int 4 0, .ref 577, .int 379 0, .int 4 0, .ref 584, .int 384 0, .int 4 0, .ref 591, .int 387 0, .int 4 0, .ref 598, .int 390 0, .int 4 0, .ref 605, .int 393 0, .int 4 0, .ref 612, .int 396 0, .int 4 0, .ref 619, .int 399 0, .int 4 0, .ref 626, .int 402 0, .int 4 0, .ref 633, .int 405 0, .int 4 0, .ref 640, .int 408 0, .int 4 0, .ref 647], #[]⟩
noncomputable def b491 (P : Params) : Obj := ⟨.type "code", none, .fields #[.str "CharSet" 867, .str "CharSet" 868, .str "/claim/cut.py" 869, .int 314 0, .int 0 0, .int 0 0, .int 0 0, .int 0 0, .ref 489, .bool false, .int 181 0, .ref 490, .none, .none, .none, .none, .int 870 0, .int 314 0, .str "/claim/cut.py" 871], #[]⟩
noncomputable def b492 (P : Params) : Obj := ⟨.type "frame", none, .plain, #[some (.ref 491), some (.ref 3), some (.ref 488), none, some (.str "grammarmill.charset" 861), none, some (.ref 0)]⟩
noncomputable def b495 (P : Params) : Obj := ⟨.type "tuple", none, .seq #[.str "self" 880, .str "spans" 881] 0, #[]⟩
noncomputable def b497 (P : Params) : Obj := ⟨.none, none, .func ⟨"__init__", "CharSet.__init__", dP (sB 26 0), dB (sB 26 0), dS (sB 26 0), 0, [], .none, .none, .none, .none, none, .none, .none, 0⟩, #[]⟩
noncomputable def b498 (P : Params) : Obj := ⟨.type "code", none, .fields #[.str "__init__" 877, .str "CharSet.__init__" 878, .str "/claim/cut.py" 879, .int 316 0, .int 2 0, .int 0 0, .int 0 0, .int 3 0, .ref 493, .bool true, .int 181 0, .ref 494, .none, .ref 495, .ref 496, .ref 497, .int 882 0, .int 316 0, .str "/claim/cut.py" 883], #[]⟩
noncomputable def b499 (P : Params) : Obj := ⟨.type "function", none, .func ⟨"__init__", "CharSet.__init__", dP (sB 26 0), dB (sB 26 0), dS (sB 26 0), 3, [], .none, .none, .none, .str "grammarmill.charset" 861, none, .ref 498, .none, 0⟩, #[]⟩
noncomputable def b504 (P : Params) : Obj := ⟨.none, none, .func ⟨"none", "CharSet.none", dP (sB 26 1), dB (sB 26 1), dS (sB 26 1), 0, [], .none, .none, .none, .none, none, .none, .none, 0⟩, #[]⟩
noncomputable def b505 (P : Params) : Obj := ⟨.type "code", none, .fields #[.str "none" 885, .str "CharSet.none" 886, .str "/claim/cut.py" 887, .int 319 0, .int 0 0, .int 0 0, .int 0 0, .int 3 0, .ref 500, .bool true, .int 181 0, .ref 501, .none, .ref 502, .ref 503, .ref 504, .int 888 0, .int 319 0, .str "/claim/cut.py" 889], #[]⟩
noncomputable def b506 (P : Params) : Obj := ⟨.type "function", none, .func ⟨"none", "CharSet.none", dP (sB 26 1), dB (sB 26 1), dS (sB 26 1), 3, [], .none, .none, .none, .str "grammarmill.charset" 861, (some 509), .ref 505, .none, 0⟩, #[]⟩
noncomputable def b507 (P : Params) : Obj := ⟨.type "dict", none, .dict #[ee P "__module__" 891 (.str "grammarmill.charset" 861), ee P "__name__" 894 (.str "none" 893), ee P "__qualname__" 897 (.str "CharSet.none" 896), ee P "__doc__" 899 .none, ee P "__annotations__" 901 (.ref 509)] 5, #[]⟩
noncomputable def b508 (P : Params) : Obj := ⟨.type "staticmethod", (some 507), .fields #[.ref 506, .bool false], #[]⟩
noncomputable def b514 (P : Params) : Obj := ⟨.none, none, .func ⟨"every", "CharSet.every", dP (sB 26 2), dB (sB 26 2), dS (sB 26 2), 0, [], .none, .none, .none, .none, none, .none, .none, 0⟩, #[]⟩
noncomputable def b515 (P : Params) : Obj := ⟨.type "code", none, .fields #[.str "every" 903, .str "CharSet.every" 904, .str "/claim/cut.py" 905, .int 323 0, .int 0 0, .int 0 0, .int 0 0, .int 3 0, .ref 510, .bool true, .int 181 0, .ref 511, .none, .ref 512, .ref 513, .ref 514, .int 906 0, .int 323 0, .str "/claim/cut.py" 907], #[]⟩
noncomputable def b516 (P : Params) : Obj := ⟨.type "function", none, .func ⟨"every", "CharSet.every", dP (sB 26 2), dB (sB 26 2), dS (sB 26 2), 3, [], .none, .none, .none, .str "grammarmill.charset" 861, (some 519), .ref 515, .none, 0⟩, #[]⟩
noncomputable def b517 (P : Params) : Obj := ⟨.type "dict", none, .dict #[ee P "__module__" 909 (.str "grammarmill.charset" 861), ee P "__name__" 912 (.str "every" 911), ee P "__qualname__" 915 (.str "CharSet.every" 914), ee P "__doc__" 917 .none, ee P "__annotations__" 919 (.ref 519)] 5, #[]⟩
noncomputable def b518 (P : Params) : Obj := ⟨.type "staticmethod", (some 517), .fields #[.ref 516, .bool false], #[]⟩
noncomputable def b524 (P : Params) : Obj := ⟨.none, none, .func ⟨"dot", "CharSet.dot", dP (sB 26 3), dB (sB 26 3), dS (sB 26 3), 0, [], .none, .none, .none, .none, none, .none, .none, 0⟩, #[]⟩
noncomputable def b525 (P : Params) : Obj := ⟨.type "code", none, .fields #[.str "dot" 921, .str "CharSet.dot" 922, .str "/claim/cut.py" 923, .int 327 0, .int 0 0, .int 0 0, .int 0 0, .int 3 0, .ref 520, .bool true, .int 181 0, .ref 521, .none, .ref 522, .ref 523, .ref 524, .int 924 0, .int 327 0, .str "/claim/cut.py" 925], #[]⟩
noncomputable def b526 (P : Params) : Obj := ⟨.type "function", none, .func ⟨"dot", "CharSet.dot", dP (sB 26 3), dB (sB 26 3), dS (sB 26 3), 3, [], .none, .none, .none, .str "grammarmill.charset" 861, (some 529), .ref 525, .none, 0⟩, #[]⟩
noncomputable def b527 (P : Params) : Obj := ⟨.type "dict", none, .dict #[ee P "__module__" 927 (.str "grammarmill.charset" 861), ee P "__name__" 930 (.str "dot" 929), ee P "__qualname__" 933 (.str "CharSet.dot" 932), ee P "__doc__" 935 .none, ee P "__annotations__" 937 (.ref 529)] 5, #[]⟩
noncomputable def b528 (P : Params) : Obj := ⟨.type "staticmethod", (some 527), .fields #[.ref 526, .bool false], #[]⟩
noncomputable def b532 (P : Params) : Obj := ⟨.none, none, .func ⟨"of", "CharSet.of", dP (sB 26 4), dB (sB 26 4), dS (sB 26 4), 0, [], .none, .none, .none, .none, none, .none, .none, 0⟩, #[]⟩
noncomputable def b533 (P : Params) : Obj := ⟨.type "code", none, .fields #[.str "of" 939, .str "CharSet.of" 940, .str "/claim/cut.py" 941, .int 331 0, .int 1 0, .int 0 0, .int 0 0, .int 3 0, .ref 530, .bool true, .int 181 0, .ref 531, .none, .none, .none, .ref 532, .int 942 0, .int 331 0, .str "/claim/cut.py" 943], #[]⟩
noncomputable def b534 (P : Params) : Obj := ⟨.type "function", none, .func ⟨"of", "CharSet.of", dP (sB 26 4), dB (sB 26 4), dS (sB 26 4), 3, [], .none, .none, .none, .str "grammarmill.charset" 861, (some 537), .ref 533, .none, 0⟩, #[]⟩
noncomputable def b535 (P : Params) : Obj := ⟨.type "dict", none, .dict #[ee P "__module__" 945 (.str "grammarmill.charset" 861), ee P "__name__" 948 (.str "of" 947), ee P "__qualname__" 951 (.str "CharSet.of" 950), ee P "__doc__" 953 .none, ee P "__annotations__" 955 (.ref 537)] 5, #[]⟩
noncomputable def b536 (P : Params) : Obj := ⟨.type "staticmethod", (some 535), .fields #[.ref 534, .bool false], #[]⟩
noncomputable def b540 (P : Params) : Obj := ⟨.type "tuple", none, .seq #[.str "low" 960, .str "high" 961] 0, #[]⟩
noncomputable def b542 (P : Params) : Obj := ⟨.none, none, .func ⟨"span", "CharSet.span", dP (sB 26 5), dB (sB 26 5), dS (sB 26 5), 0, [], .none, .none, .none, .none, none, .none, .none, 0⟩, #[]⟩
noncomputable def b543 (P : Params) : Obj := ⟨.type "code", none, .fields #[.str "span" 957, .str "CharSet.span" 958, .str "/claim/cut.py" 959, .int 335 0, .int 2 0, .int 0 0, .int 0 0, .int 3 0, .ref 538, .bool true, .int 181 0, .ref 539, .none, .ref 540, .ref 541, .ref 542, .int 962 0, .int 335 0, .str "/claim/cut.py" 963], #[]⟩
noncomputable def b544 (P : Params) : Obj := ⟨.type "function", none, .func ⟨"span", "CharSet.span", dP (sB 26 5), dB (sB 26 5), dS (sB 26 5), 3, [], .none, .none, .none, .str "grammarmill.charset" 861, (some 547), .ref 543, .none, 0⟩, #[]⟩
noncomputable def b545 (P : Params) : Obj := ⟨.type "dict", none, .dict #[ee P "__module__" 965 (.str "grammarmill.charset" 861), ee P "__name__" 968 (.str "span" 967), ee P "__qualname__" 971 (.str "CharSet.span" 970), ee P "__doc__" 973 .none, ee P "__annotations__" 975 (.ref 547)] 5, #[]⟩
noncomputable def b546 (P : Params) : Obj := ⟨.type "staticmethod", (some 545), .fields #[.ref 544, .bool false], #[]⟩
noncomputable def b550 (P : Params) : Obj := ⟨.type "tuple", none, .seq #[.str "pairs" 980, .str "kept" 981, .str "first" 982, .str "last" 983, .str "low" 984, .str "high" 985, .str "spans" 986] 0, #[]⟩
noncomputable def b552 (P : Params) : Obj := ⟨.none, none, .func ⟨"made", "CharSet.made", dP (sB 26 6), dB (sB 26 6), dS (sB 26 6), 0, [], .none, .none, .none, .none, none, .none, .none, 0⟩, #[]⟩
noncomputable def b553 (P : Params) : Obj := ⟨.type "code", none, .fields #[.str "made" 977, .str "CharSet.made" 978, .str "/claim/cut.py" 979, .int 339 0, .int 1 0, .int 0 0, .int 0 0, .int 3 0, .ref 548, .bool true, .int 181 0, .ref 549, .none, .ref 550, .ref 551, .ref 552, .int 987 0, .int 339 0, .str "/claim/cut.py" 988], #[]⟩
noncomputable def b554 (P : Params) : Obj := ⟨.type "function", none, .func ⟨"made", "CharSet.made", dP (sB 26 6), dB (sB 26 6), dS (sB 26 6), 3, [], .none, .none, .none, .str "grammarmill.charset" 861, (some 557), .ref 553, .none, 0⟩, #[]⟩
noncomputable def b555 (P : Params) : Obj := ⟨.type "dict", none, .dict #[ee P "__module__" 990 (.str "grammarmill.charset" 861), ee P "__name__" 993 (.str "made" 992), ee P "__qualname__" 996 (.str "CharSet.made" 995), ee P "__doc__" 998 .none, ee P "__annotations__" 1000 (.ref 557)] 5, #[]⟩
noncomputable def b556 (P : Params) : Obj := ⟨.type "staticmethod", (some 555), .fields #[.ref 554, .bool false], #[]⟩
noncomputable def b560 (P : Params) : Obj := ⟨.type "tuple", none, .seq #[.str "self" 1005, .str "code" 1006, .str "left" 1007, .str "right" 1008, .str "middle" 1009, .str "low" 1010, .str "high" 1011] 0, #[]⟩
noncomputable def b562 (P : Params) : Obj := ⟨.none, none, .func ⟨"has", "CharSet.has", dP (sB 26 7), dB (sB 26 7), dS (sB 26 7), 0, [], .none, .none, .none, .none, none, .none, .none, 0⟩, #[]⟩
noncomputable def b563 (P : Params) : Obj := ⟨.type "code", none, .fields #[.str "has" 1002, .str "CharSet.has" 1003, .str "/claim/cut.py" 1004, .int 356 0, .int 2 0, .int 0 0, .int 0 0, .int 3 0, .ref 558, .bool true, .int 181 0, .ref 559, .none, .ref 560, .ref 561, .ref 562, .int 1012 0, .int 356 0, .str "/claim/cut.py" 1013], #[]⟩
noncomputable def b564 (P : Params) : Obj := ⟨.type "function", none, .func ⟨"has", "CharSet.has", dP (sB 26 7), dB (sB 26 7), dS (sB 26 7), 3, [], .none, .none, .none, .str "grammarmill.charset" 861, none, .ref 563, .none, 0⟩, #[]⟩
noncomputable def b567 (P : Params) : Obj := ⟨.type "tuple", none, .seq #[.str "self" 1018] 0, #[]⟩
noncomputable def b569 (P : Params) : Obj := ⟨.none, none, .func ⟨"size", "CharSet.size", dP (sB 26 8), dB (sB 26 8), dS (sB 26 8), 0, [], .none, .none, .none, .none, none, .none, .none, 0⟩, #[]⟩
noncomputable def b570 (P : Params) : Obj := ⟨.type "code", none, .fields #[.str "size" 1015, .str "CharSet.size" 1016, .str "/claim/cut.py" 1017, .int 370 0, .int 1 0, .int 0 0, .int 0 0, .int 3 0, .ref 565, .bool true, .int 181 0, .ref 566, .none, .ref 567, .ref 568, .ref 569, .int 1019 0, .int 370 0, .str "/claim/cut.py" 1020], #[]⟩
noncomputable def b571 (P : Params) : Obj := ⟨.type "function", none, .func ⟨"size", "CharSet.size", dP (sB 26 8), dB (sB 26 8), dS (sB 26 8), 3, [], .none, .none, .none, .str "grammarmill.charset" 861, none, .ref 570, .none, 0⟩, #[]⟩
noncomputable def b574 (P : Params) : Obj := ⟨.type "tuple", none, .seq #[.str "self" 1025, .str "found" 1026, .str "low" 1027, .str "high" 1028] 0, #[]⟩
noncomputable def b576 (P : Params) : Obj := ⟨.none, none, .func ⟨"codes", "CharSet.codes", dP (sB 26 9), dB (sB 26 9), dS (sB 26 9), 0, [], .none, .none, .none, .none, none, .none, .none, 0⟩, #[]⟩
noncomputable def b577 (P : Params) : Obj := ⟨.type "code", none, .fields #[.str "codes" 1022, .str "CharSet.codes" 1023, .str "/claim/cut.py" 1024, .int 373 0, .int 1 0, .int 0 0, .int 0 0, .int 3 0, .ref 572, .bool true, .int 181 0, .ref 573, .none, .ref 574, .ref 575, .ref 576, .int 1029 0, .int 373 0, .str "/claim/cut.py" 1030], #[]⟩
noncomputable def b578 (P : Params) : Obj := ⟨.type "function", none, .func ⟨"codes", "CharSet.codes", dP (sB 26 9), dB (sB 26 9), dS (sB 26 9), 3, [], .none, .none, .none, .str "grammarmill.charset" 861, none, .ref 577, .none, 0⟩, #[]⟩
noncomputable def b581 (P : Params) : Obj := ⟨.type "tuple", none, .seq #[.str "self" 1035] 0, #[]⟩
noncomputable def b583 (P : Params) : Obj := ⟨.none, none, .func ⟨"least", "CharSet.least", dP (sB 26 10), dB (sB 26 10), dS (sB 26 10), 0, [], .none, .none, .none, .none, none, .none, .none, 0⟩, #[]⟩
noncomputable def b584 (P : Params) : Obj := ⟨.type "code", none, .fields #[.str "least" 1032, .str "CharSet.least" 1033, .str "/claim/cut.py" 1034, .int 379 0, .int 1 0, .int 0 0, .int 0 0, .int 3 0, .ref 579, .bool true, .int 181 0, .ref 580, .none, .ref 581, .ref 582, .ref 583, .int 1036 0, .int 379 0, .str "/claim/cut.py" 1037], #[]⟩
noncomputable def b585 (P : Params) : Obj := ⟨.type "function", none, .func ⟨"least", "CharSet.least", dP (sB 26 10), dB (sB 26 10), dS (sB 26 10), 3, [], .none, .none, .none, .str "grammarmill.charset" 861, none, .ref 584, .none, 0⟩, #[]⟩
noncomputable def b588 (P : Params) : Obj := ⟨.type "tuple", none, .seq #[.str "self" 1042] 0, #[]⟩
noncomputable def b590 (P : Params) : Obj := ⟨.none, none, .func ⟨"is_empty", "CharSet.is_empty", dP (sB 26 11), dB (sB 26 11), dS (sB 26 11), 0, [], .none, .none, .none, .none, none, .none, .none, 0⟩, #[]⟩
noncomputable def b591 (P : Params) : Obj := ⟨.type "code", none, .fields #[.str "is_empty" 1039, .str "CharSet.is_empty" 1040, .str "/claim/cut.py" 1041, .int 384 0, .int 1 0, .int 0 0, .int 0 0, .int 3 0, .ref 586, .bool true, .int 181 0, .ref 587, .none, .ref 588, .ref 589, .ref 590, .int 1043 0, .int 384 0, .str "/claim/cut.py" 1044], #[]⟩
noncomputable def b592 (P : Params) : Obj := ⟨.type "function", none, .func ⟨"is_empty", "CharSet.is_empty", dP (sB 26 11), dB (sB 26 11), dS (sB 26 11), 3, [], .none, .none, .none, .str "grammarmill.charset" 861, none, .ref 591, .none, 0⟩, #[]⟩
noncomputable def b595 (P : Params) : Obj := ⟨.type "tuple", none, .seq #[.str "self" 1049, .str "other" 1050] 0, #[]⟩
noncomputable def b597 (P : Params) : Obj := ⟨.none, none, .func ⟨"union", "CharSet.union", dP (sB 26 12), dB (sB 26 12), dS (sB 26 12), 0, [], .none, .none, .none, .none, none, .none, .none, 0⟩, #[]⟩
noncomputable def b598 (P : Params) : Obj := ⟨.type "code", none, .fields #[.str "union" 1046, .str "CharSet.union" 1047, .str "/claim/cut.py" 1048, .int 387 0, .int 2 0, .int 0 0, .int 0 0, .int 3 0, .ref 593, .bool true, .int 181 0, .ref 594, .none, .ref 595, .ref 596, .ref 597, .int 1051 0, .int 387 0, .str "/claim/cut.py" 1052], #[]⟩
noncomputable def b599 (P : Params) : Obj := ⟨.type "function", none, .func ⟨"union", "CharSet.union", dP (sB 26 12), dB (sB 26 12), dS (sB 26 12), 3, [], .none, .none, .none, .str "grammarmill.charset" 861, none, .ref 598, .none, 0⟩, #[]⟩
noncomputable def b602 (P : Params) : Obj := ⟨.type "tuple", none, .seq #[.str "self" 1057, .str "other" 1058] 0, #[]⟩
noncomputable def b604 (P : Params) : Obj := ⟨.none, none, .func ⟨"meet", "CharSet.meet", dP (sB 26 13), dB (sB 26 13), dS (sB 26 13), 0, [], .none, .none, .none, .none, none, .none, .none, 0⟩, #[]⟩
noncomputable def b605 (P : Params) : Obj := ⟨.type "code", none, .fields #[.str "meet" 1054, .str "CharSet.meet" 1055, .str "/claim/cut.py" 1056, .int 390 0, .int 2 0, .int 0 0, .int 0 0, .int 3 0, .ref 600, .bool true, .int 181 0, .ref 601, .none, .ref 602, .ref 603, .ref 604, .int 1059 0, .int 390 0, .str "/claim/cut.py" 1060], #[]⟩
noncomputable def b606 (P : Params) : Obj := ⟨.type "function", none, .func ⟨"meet", "CharSet.meet", dP (sB 26 13), dB (sB 26 13), dS (sB 26 13), 3, [], .none, .none, .none, .str "grammarmill.charset" 861, none, .ref 605, .none, 0⟩, #[]⟩
noncomputable def b609 (P : Params) : Obj := ⟨.type "tuple", none, .seq #[.str "self" 1065] 0, #[]⟩
noncomputable def b611 (P : Params) : Obj := ⟨.none, none, .func ⟨"complement", "CharSet.complement", dP (sB 26 14), dB (sB 26 14), dS (sB 26 14), 0, [], .none, .none, .none, .none, none, .none, .none, 0⟩, #[]⟩
noncomputable def b612 (P : Params) : Obj := ⟨.type "code", none, .fields #[.str "complement" 1062, .str "CharSet.complement" 1063, .str "/claim/cut.py" 1064, .int 393 0, .int 1 0, .int 0 0, .int 0 0, .int 3 0, .ref 607, .bool true, .int 181 0, .ref 608, .none, .ref 609, .ref 610, .ref 611, .int 1066 0, .int 393 0, .str "/claim/cut.py" 1067], #[]⟩
noncomputable def b613 (P : Params) : Obj := ⟨.type "function", none, .func ⟨"complement", "CharSet.complement", dP (sB 26 14), dB (sB 26 14), dS (sB 26 14), 3, [], .none, .none, .none, .str "grammarmill.charset" 861, none, .ref 612, .none, 0⟩, #[]⟩
noncomputable def b616 (P : Params) : Obj := ⟨.type "tuple", none, .seq #[.str "self" 1072, .str "other" 1073] 0, #[]⟩
noncomputable def b618 (P : Params) : Obj := ⟨.none, none, .func ⟨"minus", "CharSet.minus", dP (sB 26 15), dB (sB 26 15), dS (sB 26 15), 0, [], .none, .none, .none, .none, none, .none, .none, 0⟩, #[]⟩
noncomputable def b619 (P : Params) : Obj := ⟨.type "code", none, .fields #[.str "minus" 1069, .str "CharSet.minus" 1070, .str "/claim/cut.py" 1071, .int 396 0, .int 2 0, .int 0 0, .int 0 0, .int 3 0, .ref 614, .bool true, .int 181 0, .ref 615, .none, .ref 616, .ref 617, .ref 618, .int 1074 0, .int 396 0, .str "/claim/cut.py" 1075], #[]⟩
noncomputable def b620 (P : Params) : Obj := ⟨.type "function", none, .func ⟨"minus", "CharSet.minus", dP (sB 26 15), dB (sB 26 15), dS (sB 26 15), 3, [], .none, .none, .none, .str "grammarmill.charset" 861, none, .ref 619, .none, 0⟩, #[]⟩
noncomputable def b623 (P : Params) : Obj := ⟨.type "tuple", none, .seq #[.str "self" 1080, .str "other" 1081] 0, #[]⟩
noncomputable def b625 (P : Params) : Obj := ⟨.none, none, .func ⟨"same", "CharSet.same", dP (sB 26 16), dB (sB 26 16), dS (sB 26 16), 0, [], .none, .none, .none, .none, none, .none, .none, 0⟩, #[]⟩
noncomputable def b626 (P : Params) : Obj := ⟨.type "code", none, .fields #[.str "same" 1077, .str "CharSet.same" 1078, .str "/claim/cut.py" 1079, .int 399 0, .int 2 0, .int 0 0, .int 0 0, .int 3 0, .ref 621, .bool true, .int 181 0, .ref 622, .none, .ref 623, .ref 624, .ref 625, .int 1082 0, .int 399 0, .str "/claim/cut.py" 1083], #[]⟩
noncomputable def b627 (P : Params) : Obj := ⟨.type "function", none, .func ⟨"same", "CharSet.same", dP (sB 26 16), dB (sB 26 16), dS (sB 26 16), 3, [], .none, .none, .none, .str "grammarmill.charset" 861, none, .ref 626, .none, 0⟩, #[]⟩
noncomputable def b630 (P : Params) : Obj := ⟨.type "tuple", none, .seq #[.str "self" 1088, .str "other" 1089] 0, #[]⟩
noncomputable def b632 (P : Params) : Obj := ⟨.none, none, .func ⟨"meets", "CharSet.meets", dP (sB 26 17), dB (sB 26 17), dS (sB 26 17), 0, [], .none, .none, .none, .none, none, .none, .none, 0⟩, #[]⟩
noncomputable def b633 (P : Params) : Obj := ⟨.type "code", none, .fields #[.str "meets" 1085, .str "CharSet.meets" 1086, .str "/claim/cut.py" 1087, .int 402 0, .int 2 0, .int 0 0, .int 0 0, .int 3 0, .ref 628, .bool true, .int 181 0, .ref 629, .none, .ref 630, .ref 631, .ref 632, .int 1090 0, .int 402 0, .str "/claim/cut.py" 1091], #[]⟩
noncomputable def b634 (P : Params) : Obj := ⟨.type "function", none, .func ⟨"meets", "CharSet.meets", dP (sB 26 17), dB (sB 26 17), dS (sB 26 17), 3, [], .none, .none, .none, .str "grammarmill.charset" 861, none, .ref 633, .none, 0⟩, #[]⟩
noncomputable def b637 (P : Params) : Obj := ⟨.type "tuple", none, .seq #[.str "self" 1096] 0, #[]⟩
noncomputable def b639 (P : Params) : Obj := ⟨.none, none, .func ⟨"folded", "CharSet.folded", dP (sB 26 18), dB (sB 26 18), dS (sB 26 18), 0, [], .none, .none, .none, .none, none, .none, .none, 0⟩, #[]⟩
noncomputable def b640 (P : Params) : Obj := ⟨.type "code", none, .fields #[.str "folded" 1093, .str "CharSet.folded" 1094, .str "/claim/cut.py" 1095, .int 405 0, .int 1 0, .int 0 0, .int 0 0, .int 3 0, .ref 635, .bool true, .int 181 0, .ref 636, .none, .ref 637, .ref 638, .ref 639, .int 1097 0, .int 405 0, .str "/claim/cut.py" 1098], #[]⟩
noncomputable def b641 (P : Params) : Obj := ⟨.type "function", none, .func ⟨"folded", "CharSet.folded", dP (sB 26 18), dB (sB 26 18), dS (sB 26 18), 3, [], .none, .none, .none, .str "grammarmill.charset" 861, none, .ref 640, .none, 0⟩, #[]⟩
noncomputable def b644 (P : Params) : Obj := ⟨.type "tuple", none, .seq #[.str "self" 1103] 0, #[]⟩
noncomputable def b646 (P : Params) : Obj := ⟨.none, none, .func ⟨"key", "CharSet.key", dP (sB 26 19), dB (sB 26 19), dS (sB 26 19), 0, [], .none, .none, .none, .none, none, .none, .none, 0⟩, #[]⟩
noncomputable def b647 (P : Params) : Obj := ⟨.type "code", none, .fields #[.str "key" 1100, .str "CharSet.key" 1101, .str "/claim/cut.py" 1102, .int 408 0, .int 1 0, .int 0 0, .int 0 0, .int 3 0, .ref 642, .bool true, .int 181 0, .ref 643, .none, .ref 644, .ref 645, .ref 646, .int 1104 0, .int 408 0, .str "/claim/cut.py" 1105], #[]⟩
noncomputable def b648 (P : Params) : Obj := ⟨.type "function", none, .func ⟨"key", "CharSet.key", dP (sB 26 19), dB (sB 26 19), dS (sB 26 19), 3, [], .none, .none, .none, .str "grammarmill.charset" 861, none, .ref 647, .none, 0⟩, #[]⟩
noncomputable def b649 (P : Params) : Obj := ⟨.type "tuple", none, .seq #[.str "spans" 1107] 0, #[]⟩
noncomputable def b650 (P : Params) : Obj := ⟨.type "dict", none, .dict #[ee P "__module__" 872 (.str "grammarmill.charset" 861), ee P "__firstlineno__" 876 (.int 314 875), ee P "__init__" 884 (.ref 499), ee P "none" 902 (.ref 508), ee P "every" 920 (.ref 518), ee P "dot" 938 (.ref 528), ee P "of" 956 (.ref 536), ee P "span" 976 (.ref 546), ee P "made" 1001 (.ref 556), ee P "has" 1014 (.ref 564), ee P "size" 1021 (.ref 571), ee P "codes" 1031 (.ref 578), ee P "least" 1038 (.ref 585), ee P "is_empty" 1045 (.ref 592), ee P "union" 1053 (.ref 599), ee P "meet" 1061 (.ref 606), ee P "complement" 1068 (.ref 613), ee P "minus" 1076 (.ref 620), ee P "same" 1084 (.ref 627), ee P "meets" 1092 (.ref 634), ee P "folded" 1099 (.ref 641), ee P "key" 1106 (.ref 648), ee P "__static_attributes__" 1108 (.ref 649), ee P "__dict__" 1110 (.ref 652), ee P "__weakref__" 1112 (.ref 653), ee P "__doc__" 1113 .none] 4, #[]⟩
noncomputable def b651 (P : Params) : Obj := ⟨.type "type", none, .cls { name := "CharSet", bases := [.type "object"], mro := [.ref 651, .type "object"], ns := 650, qualname := "CharSet", hasDict := true, slotNames := [], subclasses := [], abstract := false, collection := none, hasDel := false }, #[none, none, some (.str "CharSet" 865), some (.str "CharSet" 873), some (.builtin "object.__new__"), some (.bool true)]⟩
noncomputable def b652 (P : Params) : Obj := ⟨.type "getset_descriptor", none, .fields #[.str "__dict__" 1109, .ref 651, .builtin "function.__dict__", .builtin "function.__dict__#set"], #[]⟩
noncomputable def b653 (P : Params) : Obj := ⟨.type "getset_descriptor", none, .fields #[.str "__weakref__" 1111, .ref 651, .builtin "ExceptionGroup.__weakref__", .none], #[]⟩
noncomputable def b654 (P : Params) : Obj := ⟨.type "super", none, .fields #[.ref 651, .ref 651, .ref 651], #[]⟩
noncomputable def b655 (P : Params) : Obj := ⟨.type "builtin_function_or_method", none, .fields #[.builtin "object.__init_subclass__", .ref 651], #[]⟩
noncomputable def b3x6 (P : Params) : Obj := ⟨.type "dict", none, .dict #[ee P "__name__" 165 (.str "law_qd0070_01" 1359), ee P "__doc__" 166 .none, ee P "__package__" 167 .none, ee P "__loader__" 168 (.builtin "__main__.__loader__#opaque"), ee P "__spec__" 169 .none, ee P "__annotations__" 170 (.ref 6), ee P "__builtins__" 171 (.ref 4), ee P "__file__" 173 (.str "/claim/cut.py" 172), ee P "__cached__" 174 .none, ee P "_wall" 193 (.ref 21), ee P "Position" 235 (.ref 45), ee P "position_of" 247 (.ref 56), ee P "ToolError" 285 (.ref 81), ee P "TableError" 301 (.ref 94), ee P "ScanError" 317 (.ref 106), ee P "Token" 366 (.ref 140), ee P "end_token" 373 (.ref 151), ee P "DEAD" 378 (.int (-1) 377), ee P "Dfa" 445 (.ref 201), ee P "endings" 458 (.ref 213), ee P "Cut" 495 (.ref 230), ee P "LexTables" 571 (.ref 279), ee P "any_reject" 580 (.ref 290), ee P "is_final" 588 (.ref 297), ee P "cut_length" 598 (.ref 304), ee P "searched_cut" 611 (.ref 311), ee P "Reader" 785 (.ref 433), ee P "Scanner" 845 (.ref 476), ee P "trace" 860 (.ref 485), ee P "TOP" 864 (.int 127 863), ee P "CharSet" 1115 (.ref 651), ee P "Classes" 1230 (.ref 727), ee P "LexStep" 1277 (.ref 763), ee P "LexRule" 1358 (.ref 824)] 34, #[]⟩
noncomputable def b12x6 (P : Params) : Obj := ⟨.none, none, .fields #[.int 1 0, .int 0 0, .ref 20, .int 5 0, .int 0 0, .ref 27, .int 14 0, .int 0 0, .ref 55, .int 23 0, .int 0 0, .ref 62, .int 34 0, .int 0 0, .ref 90, .int 36 0, .int 0 0, .ref 102, .int 38 0, .int 0 0, .ref 114, .int 51 0, .int 0 0, .ref 150, .int 55 0, .int 0 0, .ref 157, .int 77 0, .int 0 0, .ref 212, .int 88 0, .int 0 0, .ref 219, .int 95 0, .int 0 0, .ref 240, .int 119 0, .int 0 0, .ref 289, .int 125 0, .int 0 0, .ref 296, .int 127 0, .int 0 0, .ref 303, .int 136 0, .int 0 0, .ref 310, .int 153 0, .int 0 0, .ref 317, .int 273 0, .int 0 0, .ref 443, .int 298 0, .int 0 0, .ref 484, .int 314 0, .int 0 0, .ref 491, .int 410 0, .int 0 0, .ref 661, .int 474 0, .int 0 0, .ref 737, .int 485 0, .int 0 0, .ref 773], #[]⟩
noncomputable def b658 (P : Params) : Obj := ⟨.type "dict", none, .dict #[ee P "__module__" 1123 (.str "grammarmill.charset" 861), ee P "__qualname__" 1125 (.str "Classes" 1124), ee P "__firstlineno__" 1127 (.int 410 1126), ee P "__init__" 1142 (.ref 669), ee P "from_bounds" 1162 (.ref 678), ee P "of" 1173 (.ref 686), ee P "mask" 1181 (.ref 693), ee P "charset" 1189 (.ref 700), ee P "table" 1199 (.ref 707), ee P "least" 1207 (.ref 714), ee P "word" 1213 (.ref 719), ee P "text" 1219 (.ref 724), ee P "__static_attributes__" 1223 (.ref 725)] 13, #[]⟩
noncomputable def b660 (P : Params) : Obj := ⟨.none, none, .fields #[.int 412 0, .int 4 0, .ref 668, .int 432 0, .int 4 0, .ref 675, .int 435 0, .int 4 0, .ref 685, .int 448 0, .int 4 0, .ref 692, .int 451 0, .int 4 0, .ref 699, .int 454 0, .int 4 0, .ref 706, .int 463 0, .int 4 0, .ref 713, .int 468 0, .int 4 0, .ref 718, .int 471 0, .int 4 0, .ref 723], #[]⟩
noncomputable def b661 (P : Params) : Obj := ⟨.type "code", none, .fields #[.str "Classes" 1118, .str "Classes" 1119, .str "/claim/cut.py" 1120, .int 410 0, .int 0 0, .int 0 0, .int 0 0, .int 0 0, .ref 659, .bool false, .int 181 0, .ref 660, .none, .none, .none, .none, .int 1121 0, .int 410 0, .str "/claim/cut.py" 1122], #[]⟩
noncomputable def b662 (P : Params) : Obj := ⟨.type "frame", none, .plain, #[some (.ref 661), some (.ref 3), some (.ref 658), none, some (.str "grammarmill.charset" 861), none, some (.ref 0)]⟩
noncomputable def b665 (P : Params) : Obj := ⟨.type "tuple", none, .seq #[.str "self" 1131, .str "sets" 1132, .str "turns" 1133, .str "place" 1134, .str "low" 1135, .str "high" 1136, .str "known" 1137, .str "holders" 1138, .str "code" 1139] 0, #[]⟩
noncomputable def b667 (P : Params) : Obj := ⟨.none, none, .func ⟨"__init__", "Classes.__init__", dP (sB 27 0), dB (sB 27 0), dS (sB 27 0), 0, [], .none, .none, .none, .none, none, .none, .none, 0⟩, #[]⟩
noncomputable def b668 (P : Params) : Obj := ⟨.type "code", none, .fields #[.str "__init__" 1128, .str "Classes.__init__" 1129, .str "/claim/cut.py" 1130, .int 412 0, .int 2 0, .int 0 0, .int 0 0, .int 3 0, .ref 663, .bool true, .int 181 0, .ref 664, .none, .ref 665, .ref 666, .ref 667, .int 1140 0, .int 412 0, .str "/claim/cut.py" 1141], #[]⟩
noncomputable def b669 (P : Params) : Obj := ⟨.type "function", none, .func ⟨"__init__", "Classes.__init__", dP (sB 27 0), dB (sB 27 0), dS (sB 27 0), 3, [], .none, .none, .none, .str "grammarmill.charset" 861, none, .ref 668, .none, 0⟩, #[]⟩
noncomputable def b672 (P : Params) : Obj := ⟨.type "tuple", none, .seq #[.str "bounds" 1146, .str "numbers" 1147] 0, #[]⟩
noncomputable def b674 (P : Params) : Obj := ⟨.none, none, .func ⟨"from_bounds", "Classes.from_bounds", dP (sB 27 1), dB (sB 27 1), dS (sB 27 1), 0, [], .none, .none, .none, .none, none, .none, .none, 0⟩, #[]⟩
noncomputable def b675 (P : Params) : Obj := ⟨.type "code", none, .fields #[.str "from_bounds" 1143, .str "Classes.from_bounds" 1144, .str "/claim/cut.py" 1145, .int 431 0, .int 2 0, .int 0 0, .int 0 0, .int 3 0, .ref 670, .bool true, .int 181 0, .ref 671, .none, .ref 672, .ref 673, .ref 674, .int 1148 0, .int 431 0, .str "/claim/cut.py" 1149], #[]⟩
noncomputable def b676 (P : Params) : Obj := ⟨.type "function", none, .func ⟨"from_bounds", "Classes.from_bounds", dP (sB 27 1), dB (sB 27 1), dS (sB 27 1), 3, [], .none, .none, .none, .str "grammarmill.charset" 861, (some 679), .ref 675, .none, 0⟩, #[]⟩
noncomputable def b677 (P : Params) : Obj := ⟨.type "dict", none, .dict #[ee P "__module__" 1151 (.str "grammarmill.charset" 861), ee P "__name__" 1154 (.str "from_bounds" 1153), ee P "__qualname__" 1157 (.str "Classes.from_bounds" 1156), ee P "__doc__" 1159 .none, ee P "__annotations__" 1161 (.ref 679)] 5, #[]⟩
noncomputable def b678 (P : Params) : Obj := ⟨.type "staticmethod", (some 677), .fields #[.ref 676, .bool false], #[]⟩
noncomputable def b682 (P : Params) : Obj := ⟨.type "tuple", none, .seq #[.str "self" 1166, .str "code" 1167, .str "left" 1168, .str "right" 1169, .str "middle" 1170] 0, #[]⟩
noncomputable def b684 (P : Params) : Obj := ⟨.none, none, .func ⟨"of", "Classes.of", dP (sB 27 2), dB (sB 27 2), dS (sB 27 2), 0, [], .none, .none, .none, .none, none, .none, .none, 0⟩, #[]⟩
noncomputable def b685 (P : Params) : Obj := ⟨.type "code", none, .fields #[.str "of" 1163, .str "Classes.of" 1164, .str "/claim/cut.py" 1165, .int 435 0, .int 2 0, .int 0 0, .int 0 0, .int 3 0, .ref 680, .bool true, .int 181 0, .ref 681, .none, .ref 682, .ref 683, .ref 684, .int 1171 0, .int 435 0, .str "/claim/cut.py" 1172], #[]⟩
noncomputable def b686 (P : Params) : Obj := ⟨.type "function", none, .func ⟨"of", "Classes.of", dP (sB 27 2), dB (sB 27 2), dS (sB 27 2), 3, [], .none, .none, .none, .str "grammarmill.charset" 861, none, .ref 685, .none, 0⟩, #[]⟩
noncomputable def b689 (P : Params) : Obj := ⟨.type "tuple", none, .seq #[.str "self" 1177, .str "charset" 1178] 0, #[]⟩
noncomputable def b691 (P : Params) : Obj := ⟨.none, none, .func ⟨"mask", "Classes.mask", dP (sB 27 3), dB (sB 27 3), dS (sB 27 3), 0, [], .none, .none, .none, .none, none, .none, .none, 0⟩, #[]⟩
noncomputable def b692 (P : Params) : Obj := ⟨.type "code", none, .fields #[.str "mask" 1174, .str "Classes.mask" 1175, .str "/claim/cut.py" 1176, .int 448 0, .int 2 0, .int 0 0, .int 0 0, .int 3 0, .ref 687, .bool true, .int 181 0, .ref 688, .none, .ref 689, .ref 690, .ref 691, .int 1179 0, .int 448 0, .str "/claim/cut.py" 1180], #[]⟩
noncomputable def b693 (P : Params) : Obj := ⟨.type "function", none, .func ⟨"mask", "Classes.mask", dP (sB 27 3), dB (sB 27 3), dS (sB 27 3), 3, [], .none, .none, .none, .str "grammarmill.charset" 861, none, .ref 692, .none, 0⟩, #[]⟩
noncomputable def b696 (P : Params) : Obj := ⟨.type "tuple", none, .seq #[.str "self" 1185, .str "mask" 1186] 0, #[]⟩
noncomputable def b698 (P : Params) : Obj := ⟨.none, none, .func ⟨"charset", "Classes.charset", dP (sB 27 4), dB (sB 27 4), dS (sB 27 4), 0, [], .none, .none, .none, .none, none, .none, .none, 0⟩, #[]⟩
noncomputable def b699 (P : Params) : Obj := ⟨.type "code", none, .fields #[.str "charset" 1182, .str "Classes.charset" 1183, .str "/claim/cut.py" 1184, .int 451 0, .int 2 0, .int 0 0, .int 0 0, .int 3 0, .ref 694, .bool true, .int 181 0, .ref 695, .none, .ref 696, .ref 697, .ref 698, .int 1187 0, .int 451 0, .str "/claim/cut.py" 1188], #[]⟩
noncomputable def b700 (P : Params) : Obj := ⟨.type "function", none, .func ⟨"charset", "Classes.charset", dP (sB 27 4), dB (sB 27 4), dS (sB 27 4), 3, [], .none, .none, .none, .str "grammarmill.charset" 861, none, .ref 699, .none, 0⟩, #[]⟩
noncomputable def b703 (P : Params) : Obj := ⟨.type "tuple", none, .seq #[.str "self" 1193, .str "numbers" 1194, .str "step" 1195, .str "end" 1196] 0, #[]⟩
noncomputable def b705 (P : Params) : Obj := ⟨.none, none, .func ⟨"table", "Classes.table", dP (sB 27 5), dB (sB 27 5), dS (sB 27 5), 0, [], .none, .none, .none, .none, none, .none, .none, 0⟩, #[]⟩
noncomputable def b706 (P : Params) : Obj := ⟨.type "code", none, .fields #[.str "table" 1190, .str "Classes.table" 1191, .str "/claim/cut.py" 1192, .int 454 0, .int 1 0, .int 0 0, .int 0 0, .int 3 0, .ref 701, .bool true, .int 181 0, .ref 702, .none, .ref 703, .ref 704, .ref 705, .int 1197 0, .int 454 0, .str "/claim/cut.py" 1198], #[]⟩
noncomputable def b707 (P : Params) : Obj := ⟨.type "function", none, .func ⟨"table", "Classes.table", dP (sB 27 5), dB (sB 27 5), dS (sB 27 5), 3, [], .none, .none, .none, .str "grammarmill.charset" 861, none, .ref 706, .none, 0⟩, #[]⟩
noncomputable def b710 (P : Params) : Obj := ⟨.type "tuple", none, .seq #[.str "self" 1203, .str "number" 1204] 0, #[]⟩
noncomputable def b712 (P : Params) : Obj := ⟨.none, none, .func ⟨"least", "Classes.least", dP (sB 27 6), dB (sB 27 6), dS (sB 27 6), 0, [], .none, .none, .none, .none, none, .none, .none, 0⟩, #[]⟩
noncomputable def b713 (P : Params) : Obj := ⟨.type "code", none, .fields #[.str "least" 1200, .str "Classes.least" 1201, .str "/claim/cut.py" 1202, .int 463 0, .int 2 0, .int 0 0, .int 0 0, .int 3 0, .ref 708, .bool true, .int 181 0, .ref 709, .none, .ref 710, .ref 711, .ref 712, .int 1205 0, .int 463 0, .str "/claim/cut.py" 1206], #[]⟩
noncomputable def b714 (P : Params) : Obj := ⟨.type "function", none, .func ⟨"least", "Classes.least", dP (sB 27 6), dB (sB 27 6), dS (sB 27 6), 3, [], .none, .none, .none, .str "grammarmill.charset" 861, none, .ref 713, .none, 0⟩, #[]⟩
noncomputable def b717 (P : Params) : Obj := ⟨.none, none, .func ⟨"word", "Classes.word", dP (sB 27 7), dB (sB 27 7), dS (sB 27 7), 0, [], .none, .none, .none, .none, none, .none, .none, 0⟩, #[]⟩
noncomputable def b718 (P : Params) : Obj := ⟨.type "code", none, .fields #[.str "word" 1208, .str "Classes.word" 1209, .str "/claim/cut.py" 1210, .int 468 0, .int 2 0, .int 0 0, .int 0 0, .int 3 0, .ref 715, .bool true, .int 181 0, .ref 716, .none, .none, .none, .ref 717, .int 1211 0, .int 468 0, .str "/claim/cut.py" 1212], #[]⟩
noncomputable def b719 (P : Params) : Obj := ⟨.type "function", none, .func ⟨"word", "Classes.word", dP (sB 27 7), dB (sB 27 7), dS (sB 27 7), 3, [], .none, .none, .none, .str "grammarmill.charset" 861, none, .ref 718, .none, 0⟩, #[]⟩
noncomputable def b722 (P : Params) : Obj := ⟨.none, none, .func ⟨"text", "Classes.text", dP (sB 27 8), dB (sB 27 8), dS (sB 27 8), 0, [], .none, .none, .none, .none, none, .none, .none, 0⟩, #[]⟩
noncomputable def b723 (P : Params) : Obj := ⟨.type "code", none, .fields #[.str "text" 1214, .str "Classes.text" 1215, .str "/claim/cut.py" 1216, .int 471 0, .int 2 0, .int 0 0, .int 0 0, .int 3 0, .ref 720, .bool true, .int 181 0, .ref 721, .none, .none, .none, .ref 722, .int 1217 0, .int 471 0, .str "/claim/cut.py" 1218], #[]⟩
noncomputable def b724 (P : Params) : Obj := ⟨.type "function", none, .func ⟨"text", "Classes.text", dP (sB 27 8), dB (sB 27 8), dS (sB 27 8), 3, [], .none, .none, .none, .str "grammarmill.charset" 861, none, .ref 723, .none, 0⟩, #[]⟩
noncomputable def b725 (P : Params) : Obj := ⟨.type "tuple", none, .seq #[.str "bounds" 1220, .str "count" 1221, .str "numbers" 1222] 0, #[]⟩
noncomputable def b726 (P : Params) : Obj := ⟨.type "dict", none, .dict #[ee P "__module__" 1123 (.str "grammarmill.charset" 861), ee P "__firstlineno__" 1127 (.int 410 1126), ee P "__init__" 1142 (.ref 669), ee P "from_bounds" 1162 (.ref 678), ee P "of" 1173 (.ref 686), ee P "mask" 1181 (.ref 693), ee P "charset" 1189 (.ref 700), ee P "table" 1199 (.ref 707), ee P "least" 1207 (.ref 714), ee P "word" 1213 (.ref 719), ee P "text" 1219 (.ref 724), ee P "__static_attributes__" 1223 (.ref 725), ee P "__dict__" 1225 (.ref 728), ee P "__weakref__" 1227 (.ref 729), ee P "__doc__" 1228 .none] 4, #[]⟩
noncomputable def b727 (P : Params) : Obj := ⟨.type "type", none, .cls { name := "Classes", bases := [.type "object"], mro := [.ref 727, .type "object"], ns := 726, qualname := "Classes", hasDict := true, slotNames := [], subclasses := [], abstract := false, collection := none, hasDel := false }, #[none, none, some (.str "Classes" 1116), some (.str "Classes" 1124), some (.builtin "object.__new__"), some (.bool true)]⟩
noncomputable def b728 (P : Params) : Obj := ⟨.type "getset_descriptor", none, .fields #[.str "__dict__" 1224, .ref 727, .builtin "function.__dict__", .builtin "function.__dict__#set"], #[]⟩
noncomputable def b729 (P : Params) : Obj := ⟨.type "getset_descriptor", none, .fields #[.str "__weakref__" 1226, .ref 727, .builtin "ExceptionGroup.__weakref__", .none], #[]⟩
noncomputable def b730 (P : Params) : Obj := ⟨.type "super", none, .fields #[.ref 727, .ref 727, .ref 727], #[]⟩
noncomputable def b731 (P : Params) : Obj := ⟨.type "builtin_function_or_method", none, .fields #[.builtin "object.__init_subclass__", .ref 727], #[]⟩
noncomputable def b734 (P : Params) : Obj := ⟨.type "dict", none, .dict #[ee P "__module__" 1240 (.str "grammarmill.lexfile" 1231), ee P "__qualname__" 1242 (.str "LexStep" 1241), ee P "__firstlineno__" 1244 (.int 474 1243), ee P "__init__" 1253 (.ref 746), ee P "told" 1260 (.ref 753), ee P "show" 1267 (.ref 760), ee P "__static_attributes__" 1270 (.ref 761)] 7, #[]⟩
noncomputable def b736 (P : Params) : Obj := ⟨.none, none, .fields #[.int 476 0, .int 4 0, .ref 745, .int 480 0, .int 4 0, .ref 752, .int 483 0, .int 4 0, .ref 759], #[]⟩
noncomputable def b737 (P : Params) : Obj := ⟨.type "code", none, .fields #[.str "LexStep" 1235, .str "LexStep" 1236, .str "/claim/cut.py" 1237, .int 474 0, .int 0 0, .int 0 0, .int 0 0, .int 0 0, .ref 735, .bool false, .int 181 0, .ref 736, .none, .none, .none, .none, .int 1238 0, .int 474 0, .str "/claim/cut.py" 1239], #[]⟩
noncomputable def b738 (P : Params) : Obj := ⟨.type "frame", none, .plain, #[some (.ref 737), some (.ref 3), some (.ref 734), none, some (.str "grammarmill.lexfile" 1231), none, some (.ref 0)]⟩
noncomputable def b742 (P : Params) : Obj := ⟨.type "tuple", none, .seq #[.str "self" 1248, .str "word" 1249, .str "worth" 1250] 0, #[]⟩
noncomputable def b744 (P : Params) : Obj := ⟨.none, none, .func ⟨"__init__", "LexStep.__init__", dP (sB 29 0), dB (sB 29 0), dS (sB 29 0), 0, [], .none, .none, .none, .none, none, .none, .none, 0⟩, #[]⟩
noncomputable def b745 (P : Params) : Obj := ⟨.type "code", none, .fields #[.str "__init__" 1245, .str "LexStep.__init__" 1246, .str "/claim/cut.py" 1247, .int 476 0, .int 3 0, .int 0 0, .int 0 0, .int 3 0, .ref 740, .bool true, .int 181 0, .ref 741, .none, .ref 742, .ref 743, .ref 744, .int 1251 0, .int 476 0, .str "/claim/cut.py" 1252], #[]⟩
noncomputable def b746 (P : Params) : Obj := ⟨.type "function", none, .func ⟨"__init__", "LexStep.__init__", dP (sB 29 0), dB (sB 29 0), dS (sB 29 0), 3, [], .ref 739, .none, .none, .str "grammarmill.lexfile" 1231, none, .ref 745, .none, 0⟩, #[]⟩
noncomputable def b749 (P : Params) : Obj := ⟨.type "tuple", none, .seq #[.str "self" 1257] 0, #[]⟩
noncomputable def b751 (P : Params) : Obj := ⟨.none, none, .func ⟨"told", "LexStep.told", dP (sB 29 1), dB (sB 29 1), dS (sB 29 1), 0, [], .none, .none, .none, .none, none, .none, .none, 0⟩, #[]⟩
noncomputable def b752 (P : Params) : Obj := ⟨.type "code", none, .fields #[.str "told" 1254, .str "LexStep.told" 1255, .str "/claim/cut.py" 1256, .int 480 0, .int 1 0, .int 0 0, .int 0 0, .int 3 0, .ref 747, .bool true, .int 181 0, .ref 748, .none, .ref 749, .ref 750, .ref 751, .int 1258 0, .int 480 0, .str "/claim/cut.py" 1259], #[]⟩
noncomputable def b753 (P : Params) : Obj := ⟨.type "function", none, .func ⟨"told", "LexStep.told", dP (sB 29 1), dB (sB 29 1), dS (sB 29 1), 3, [], .none, .none, .none, .str "grammarmill.lexfile" 1231, none, .ref 752, .none, 0⟩, #[]⟩
noncomputable def b756 (P : Params) : Obj := ⟨.type "tuple", none, .seq #[.str "self" 1264] 0, #[]⟩
noncomputable def b758 (P : Params) : Obj := ⟨.none, none, .func ⟨"show", "LexStep.show", dP (sB 29 2), dB (sB 29 2), dS (sB 29 2), 0, [], .none, .none, .none, .none, none, .none, .none, 0⟩, #[]⟩
noncomputable def b759 (P : Params) : Obj := ⟨.type "code", none, .fields #[.str "show" 1261, .str "LexStep.show" 1262, .str "/claim/cut.py" 1263, .int 483 0, .int 1 0, .int 0 0, .int 0 0, .int 3 0, .ref 754, .bool true, .int 181 0, .ref 755, .none, .ref 756, .ref 757, .ref 758, .int 1265 0, .int 483 0, .str "/claim/cut.py" 1266], #[]⟩
noncomputable def b760 (P : Params) : Obj := ⟨.type "function", none, .func ⟨"show", "LexStep.show", dP (sB 29 2), dB (sB 29 2), dS (sB 29 2), 3, [], .none, .none, .none, .str "grammarmill.lexfile" 1231, none, .ref 759, .none, 0⟩, #[]⟩
noncomputable def b761 (P : Params) : Obj := ⟨.type "tuple", none, .seq #[.str "word" 1268, .str "worth" 1269] 0, #[]⟩
noncomputable def b762 (P : Params) : Obj := ⟨.type "dict", none, .dict #[ee P "__module__" 1240 (.str "grammarmill.lexfile" 1231), ee P "__firstlineno__" 1244 (.int 474 1243), ee P "__init__" 1253 (.ref 746), ee P "told" 1260 (.ref 753), ee P "show" 1267 (.ref 760), ee P "__static_attributes__" 1270 (.ref 761), ee P "__dict__" 1272 (.ref 764), ee P "__weakref__" 1274 (.ref 765), ee P "__doc__" 1275 .none] 4, #[]⟩
noncomputable def b763 (P : Params) : Obj := ⟨.type "type", none, .cls { name := "LexStep", bases := [.type "object"], mro := [.ref 763, .type "object"], ns := 762, qualname := "LexStep", hasDict := true, slotNames := [], subclasses := [], abstract := false, collection := none, hasDel := false }, #[none, none, some (.str "LexStep" 1233), some (.str "LexStep" 1241), some (.builtin "object.__new__"), some (.bool true)]⟩
noncomputable def b764 (P : Params) : Obj := ⟨.type "getset_descriptor", none, .fields #[.str "__dict__" 1271, .ref 763, .builtin "function.__dict__", .builtin "function.__dict__#set"], #[]⟩
noncomputable def b765 (P : Params) : Obj := ⟨.type "getset_descriptor", none, .fields #[.str "__weakref__" 1273, .ref 763, .builtin "ExceptionGroup.__weakref__", .none], #[]⟩
noncomputable def b766 (P : Params) : Obj := ⟨.type "super", none, .fields #[.ref 763, .ref 763, .ref 763], #[]⟩
noncomputable def b767 (P : Params) : Obj := ⟨.type "builtin_function_or_method", none, .fields #[.builtin "object.__init_subclass__", .ref 763], #[]⟩
noncomputable def b770 (P : Params) : Obj := ⟨.type "dict", none, .dict #[ee P "__module__" 1285 (.str "grammarmill.lexfile" 1231), ee P "__qualname__" 1287 (.str "LexRule" 1286), ee P "__firstlineno__" 1289 (.int 485 1288), ee P "__init__" 1301 (.ref 781), ee P "is_end" 1308 (.ref 788), ee P "is_live" 1316 (.ref 795), ee P "has_step" 1324 (.ref 802), ee P "kind" 1332 (.ref 809), ee P "goals" 1339 (.ref 816), ee P "told" 1345 (.ref 821), ee P "__static_attributes__" 1351 (.ref 822)] 11, #[]⟩
noncomputable def b772 (P : Params) : Obj := ⟨.none, none, .fields #[.int 487 0, .int 4 0, .ref 780, .int 494 0, .int 4 0, .ref 787, .int 497 0, .int 4 0, .ref 794, .int 500 0, .int 4 0, .ref 801, .int 503 0, .int 4 0, .ref 808, .int 509 0, .int 4 0, .ref 815, .int 512 0, .int 4 0, .ref 820], #[]⟩
noncomputable def b773 (P : Params) : Obj := ⟨.type "code", none, .fields #[.str "LexRule" 1280, .str "LexRule" 1281, .str "/claim/cut.py" 1282, .int 485 0, .int 0 0, .int 0 0, .int 0 0, .int 0 0, .ref 771, .bool false, .int 181 0, .ref 772, .none, .none, .none, .none, .int 1283 0, .int 485 0, .str "/claim/cut.py" 1284], #[]⟩
noncomputable def b774 (P : Params) : Obj := ⟨.type "frame", none, .plain, #[some (.ref 773), some (.ref 3), some (.ref 770), none, some (.str "grammarmill.lexfile" 1231), none, some (.ref 0)]⟩
noncomputable def b777 (P : Params) : Obj := ⟨.type "tuple", none, .seq #[.str "self" 1293, .str "number" 1294, .str "conditions" 1295, .str "pattern" 1296, .str "steps" 1297, .str "line" 1298] 0, #[]⟩
noncomputable def b779 (P : Params) : Obj := ⟨.none, none, .func ⟨"__init__", "LexRule.__init__", dP (sB 30 0), dB (sB 30 0), dS (sB 30 0), 0, [], .none, .none, .none, .none, none, .none, .none, 0⟩, #[]⟩
noncomputable def b780 (P : Params) : Obj := ⟨.type "code", none, .fields #[.str "__init__" 1290, .str "LexRule.__init__" 1291, .str "/claim/cut.py" 1292, .int 487 0, .int 6 0, .int 0 0, .int 0 0, .int 3 0, .ref 775, .bool true, .int 181 0, .ref 776, .none, .ref 777, .ref 778, .ref 779, .int 1299 0, .int 487 0, .str "/claim/cut.py" 1300], #[]⟩
noncomputable def b781 (P : Params) : Obj := ⟨.type "function", none, .func ⟨"__init__", "LexRule.__init__", dP (sB 30 0), dB (sB 30 0), dS (sB 30 0), 3, [], .none, .none, .none, .str "grammarmill.lexfile" 1231, none, .ref 780, .none, 0⟩, #[]⟩
noncomputable def b784 (P : Params) : Obj := ⟨.type "tuple", none, .seq #[.str "self" 1305] 0, #[]⟩
noncomputable def b786 (P : Params) : Obj := ⟨.none, none, .func ⟨"is_end", "LexRule.is_end", dP (sB 30 1), dB (sB 30 1), dS (sB 30 1), 0, [], .none, .none, .none, .none, none, .none, .none, 0⟩, #[]⟩
noncomputable def b787 (P : Params) : Obj := ⟨.type "code", none, .fields #[.str "is_end" 1302, .str "LexRule.is_end" 1303, .str "/claim/cut.py" 1304, .int 494 0, .int 1 0, .int 0 0, .int 0 0, .int 3 0, .ref 782, .bool true, .int 181 0, .ref 783, .none, .ref 784, .ref 785, .ref 786, .int 1306 0, .int 494 0, .str "/claim/cut.py" 1307], #[]⟩
noncomputable def b788 (P : Params) : Obj := ⟨.type "function", none, .func ⟨"is_end", "LexRule.is_end", dP (sB 30 1), dB (sB 30 1), dS (sB 30 1), 3, [], .none, .none, .none, .str "grammarmill.lexfile" 1231, none, .ref 787, .none, 0⟩, #[]⟩
noncomputable def b791 (P : Params) : Obj := ⟨.type "tuple", none, .seq #[.str "self" 1312, .str "condition" 1313] 0, #[]⟩
noncomputable def b793 (P : Params) : Obj := ⟨.none, none, .func ⟨"is_live", "LexRule.is_live", dP (sB 30 2), dB (sB 30 2), dS (sB 30 2), 0, [], .none, .none, .none, .none, none, .none, .none, 0⟩, #[]⟩
noncomputable def b794 (P : Params) : Obj := ⟨.type "code", none, .fields #[.str "is_live" 1309, .str "LexRule.is_live" 1310, .str "/claim/cut.py" 1311, .int 497 0, .int 2 0, .int 0 0, .int 0 0, .int 3 0, .ref 789, .bool true, .int 181 0, .ref 790, .none, .ref 791, .ref 792, .ref 793, .int 1314 0, .int 497 0, .str "/claim/cut.py" 1315], #[]⟩
noncomputable def b795 (P : Params) : Obj := ⟨.type "function", none, .func ⟨"is_live", "LexRule.is_live", dP (sB 30 2), dB (sB 30 2), dS (sB 30 2), 3, [], .none, .none, .none, .str "grammarmill.lexfile" 1231, none, .ref 794, .none, 0⟩, #[]⟩
noncomputable def b798 (P : Params) : Obj := ⟨.type "tuple", none, .seq #[.str "self" 1320, .str "word" 1321] 0, #[]⟩
noncomputable def b800 (P : Params) : Obj := ⟨.none, none, .func ⟨"has_step", "LexRule.has_step", dP (sB 30 3), dB (sB 30 3), dS (sB 30 3), 0, [], .none, .none, .none, .none, none, .none, .none, 0⟩, #[]⟩
noncomputable def b801 (P : Params) : Obj := ⟨.type "code", none, .fields #[.str "has_step" 1317, .str "LexRule.has_step" 1318, .str "/claim/cut.py" 1319, .int 500 0, .int 2 0, .int 0 0, .int 0 0, .int 3 0, .ref 796, .bool true, .int 181 0, .ref 797, .none, .ref 798, .ref 799, .ref 800, .int 1322 0, .int 500 0, .str "/claim/cut.py" 1323], #[]⟩
noncomputable def b802 (P : Params) : Obj := ⟨.type "function", none, .func ⟨"has_step", "LexRule.has_step", dP (sB 30 3), dB (sB 30 3), dS (sB 30 3), 3, [], .none, .none, .none, .str "grammarmill.lexfile" 1231, none, .ref 801, .none, 0⟩, #[]⟩
noncomputable def b805 (P : Params) : Obj := ⟨.type "tuple", none, .seq #[.str "self" 1328, .str "step" 1329] 0, #[]⟩
noncomputable def b807 (P : Params) : Obj := ⟨.none, none, .func ⟨"kind", "LexRule.kind", dP (sB 30 4), dB (sB 30 4), dS (sB 30 4), 0, [], .none, .none, .none, .none, none, .none, .none, 0⟩, #[]⟩
noncomputable def b808 (P : Params) : Obj := ⟨.type "code", none, .fields #[.str "kind" 1325, .str "LexRule.kind" 1326, .str "/claim/cut.py" 1327, .int 503 0, .int 1 0, .int 0 0, .int 0 0, .int 3 0, .ref 803, .bool true, .int 181 0, .ref 804, .none, .ref 805, .ref 806, .ref 807, .int 1330 0, .int 503 0, .str "/claim/cut.py" 1331], #[]⟩
noncomputable def b809 (P : Params) : Obj := ⟨.type "function", none, .func ⟨"kind", "LexRule.kind", dP (sB 30 4), dB (sB 30 4), dS (sB 30 4), 3, [], .none, .none, .none, .str "grammarmill.lexfile" 1231, none, .ref 808, .none, 0⟩, #[]⟩
noncomputable def b812 (P : Params) : Obj := ⟨.type "tuple", none, .seq #[.str "self" 1336] 0, #[]⟩
noncomputable def b814 (P : Params) : Obj := ⟨.none, none, .func ⟨"goals", "LexRule.goals", dP (sB 30 5), dB (sB 30 5), dS (sB 30 5), 0, [], .none, .none, .none, .none, none, .none, .none, 0⟩, #[]⟩
noncomputable def b815 (P : Params) : Obj := ⟨.type "code", none, .fields #[.str "goals" 1333, .str "LexRule.goals" 1334, .str "/claim/cut.py" 1335, .int 509 0, .int 1 0, .int 0 0, .int 0 0, .int 3 0, .ref 810, .bool true, .int 181 0, .ref 811, .none, .ref 812, .ref 813, .ref 814, .int 1337 0, .int 509 0, .str "/claim/cut.py" 1338], #[]⟩
noncomputable def b816 (P : Params) : Obj := ⟨.type "function", none, .func ⟨"goals", "LexRule.goals", dP (sB 30 5), dB (sB 30 5), dS (sB 30 5), 3, [], .none, .none, .none, .str "grammarmill.lexfile" 1231, none, .ref 815, .none, 0⟩, #[]⟩
noncomputable def b819 (P : Params) : Obj := ⟨.none, none, .func ⟨"told", "LexRule.told", dP (sB 30 6), dB (sB 30 6), dS (sB 30 6), 0, [], .none, .none, .none, .none, none, .none, .none, 0⟩, #[]⟩
noncomputable def b820 (P : Params) : Obj := ⟨.type "code", none, .fields #[.str "told" 1340, .str "LexRule.told" 1341, .str "/claim/cut.py" 1342, .int 512 0, .int 1 0, .int 0 0, .int 0 0, .int 3 0, .ref 817, .bool true, .int 181 0, .ref 818, .none, .none, .none, .ref 819, .int 1343 0, .int 512 0, .str "/claim/cut.py" 1344], #[]⟩
noncomputable def b821 (P : Params) : Obj := ⟨.type "function", none, .func ⟨"told", "LexRule.told", dP (sB 30 6), dB (sB 30 6), dS (sB 30 6), 3, [], .none, .none, .none, .str "grammarmill.lexfile" 1231, none, .ref 820, .none, 0⟩, #[]⟩
noncomputable def b822 (P : Params) : Obj := ⟨.type "tuple", none, .seq #[.str "conditions" 1346, .str "line" 1347, .str "number" 1348, .str "pattern" 1349, .str "steps" 1350] 0, #[]⟩
noncomputable def b823 (P : Params) : Obj := ⟨.type "dict", none, .dict #[ee P "__module__" 1285 (.str "grammarmill.lexfile" 1231), ee P "__firstlineno__" 1289 (.int 485 1288), ee P "__init__" 1301 (.ref 781), ee P "is_end" 1308 (.ref 788), ee P "is_live" 1316 (.ref 795), ee P "has_step" 1324 (.ref 802), ee P "kind" 1332 (.ref 809), ee P "goals" 1339 (.ref 816), ee P "told" 1345 (.ref 821), ee P "__static_attributes__" 1351 (.ref 822), ee P "__dict__" 1353 (.ref 825), ee P "__weakref__" 1355 (.ref 826), ee P "__doc__" 1356 .none] 4, #[]⟩
noncomputable def b824 (P : Params) : Obj := ⟨.type "type", none, .cls { name := "LexRule", bases := [.type "object"], mro := [.ref 824, .type "object"], ns := 823, qualname := "LexRule", hasDict := true, slotNames := [], subclasses := [], abstract := false, collection := none, hasDel := false }, #[none, none, some (.str "LexRule" 1278), some (.str "LexRule" 1286), some (.builtin "object.__new__"), some (.bool true)]⟩
noncomputable def b825 (P : Params) : Obj := ⟨.type "getset_descriptor", none, .fields #[.str "__dict__" 1352, .ref 824, .builtin "function.__dict__", .builtin "function.__dict__#set"], #[]⟩
noncomputable def b826 (P : Params) : Obj := ⟨.type "getset_descriptor", none, .fields #[.str "__weakref__" 1354, .ref 824, .builtin "ExceptionGroup.__weakref__", .none], #[]⟩
noncomputable def b827 (P : Params) : Obj := ⟨.type "super", none, .fields #[.ref 824, .ref 824, .ref 824], #[]⟩
noncomputable def b828 (P : Params) : Obj := ⟨.type "builtin_function_or_method", none, .fields #[.builtin "object.__init_subclass__", .ref 824], #[]⟩
noncomputable def b3x7 (P : Params) : Obj := ⟨.type "dict", none, .dict #[ee P "__name__" 165 (.str "law_qd0070_01" 1359), ee P "__doc__" 166 .none, ee P "__package__" 167 .none, ee P "__loader__" 168 (.builtin "__main__.__loader__#opaque"), ee P "__spec__" 169 .none, ee P "__annotations__" 170 (.ref 6), ee P "__builtins__" 171 (.ref 4), ee P "__file__" 173 (.str "/claim/cut.py" 172), ee P "__cached__" 174 .none, ee P "_wall" 193 (.ref 21), ee P "Position" 235 (.ref 45), ee P "position_of" 247 (.ref 56), ee P "ToolError" 285 (.ref 81), ee P "TableError" 301 (.ref 94), ee P "ScanError" 317 (.ref 106), ee P "Token" 366 (.ref 140), ee P "end_token" 373 (.ref 151), ee P "DEAD" 378 (.int (-1) 377), ee P "Dfa" 445 (.ref 201), ee P "endings" 458 (.ref 213), ee P "Cut" 495 (.ref 230), ee P "LexTables" 571 (.ref 279), ee P "any_reject" 580 (.ref 290), ee P "is_final" 588 (.ref 297), ee P "cut_length" 598 (.ref 304), ee P "searched_cut" 611 (.ref 311), ee P "Reader" 785 (.ref 433), ee P "Scanner" 845 (.ref 476), ee P "trace" 860 (.ref 485), ee P "TOP" 864 (.int 127 863), ee P "CharSet" 1115 (.ref 651), ee P "Classes" 1230 (.ref 727), ee P "LexStep" 1277 (.ref 763), ee P "LexRule" 1358 (.ref 824), ee P "_law_NUMBERS" 1370 (.ref 829), ee P "_law_pen" 1379 (.ref 836)] 36, #[]⟩
noncomputable def b12x7 (P : Params) : Obj := ⟨.none, none, .fields #[.int 1 0, .int 0 0, .ref 20, .int 5 0, .int 0 0, .ref 27, .int 14 0, .int 0 0, .ref 55, .int 23 0, .int 0 0, .ref 62, .int 34 0, .int 0 0, .ref 90, .int 36 0, .int 0 0, .ref 102, .int 38 0, .int 0 0, .ref 114, .int 51 0, .int 0 0, .ref 150, .int 55 0, .int 0 0, .ref 157, .int 77 0, .int 0 0, .ref 212, .int 88 0, .int 0 0, .ref 219, .int 95 0, .int 0 0, .ref 240, .int 119 0, .int 0 0, .ref 289, .int 125 0, .int 0 0, .ref 296, .int 127 0, .int 0 0, .ref 303, .int 136 0, .int 0 0, .ref 310, .int 153 0, .int 0 0, .ref 317, .int 273 0, .int 0 0, .ref 443, .int 298 0, .int 0 0, .ref 484, .int 314 0, .int 0 0, .ref 491, .int 410 0, .int 0 0, .ref 661, .int 474 0, .int 0 0, .ref 737, .int 485 0, .int 0 0, .ref 773, .int 517 0, .int 0 0, .ref 835], #[]⟩
noncomputable def b829 (P : Params) : Obj := ⟨.type "dict", none, .dict #[ee P "a" 1361 (.int 1 1362), ee P "b" 1363 (.int 2 1364), ee P "\n" 1365 (.int 0 1366)] 3, #[]⟩
noncomputable def b832 (P : Params) : Obj := ⟨.type "tuple", none, .seq #[.str "script" 1374, .str "number" 1375, .str "cell" 1376] 0, #[]⟩
noncomputable def b834 (P : Params) : Obj := ⟨.none, none, .func ⟨"_law_pen", "_law_pen", dP (sA 33), dB (sA 33), dS (sA 33), 0, [], .none, .none, .none, .none, none, .none, .none, 0⟩, #[]⟩
noncomputable def b835 (P : Params) : Obj := ⟨.type "code", none, .fields #[.str "_law_pen" 1371, .str "_law_pen" 1372, .str "/claim/cut.py" 1373, .int 517 0, .int 1 0, .int 0 0, .int 0 0, .int 3 0, .ref 830, .bool true, .int 181 0, .ref 831, .none, .ref 832, .ref 833, .ref 834, .int 1377 0, .int 517 0, .str "/claim/cut.py" 1378], #[]⟩
noncomputable def b836 (P : Params) : Obj := ⟨.type "function", none, .func ⟨"_law_pen", "_law_pen", dP (sA 33), dB (sA 33), dS (sA 33), 3, [], .none, .none, .none, .str "law_qd0070_01" 1359, none, .ref 835, .none, 0⟩, #[]⟩
noncomputable def b3x8 (P : Params) : Obj := ⟨.type "dict", none, .dict #[ee P "__name__" 165 (.str "law_qd0070_01" 1359), ee P "__doc__" 166 .none, ee P "__package__" 167 .none, ee P "__loader__" 168 (.builtin "__main__.__loader__#opaque"), ee P "__spec__" 169 .none, ee P "__annotations__" 170 (.ref 6), ee P "__builtins__" 171 (.ref 4), ee P "__file__" 173 (.str "/claim/cut.py" 172), ee P "__cached__" 174 .none, ee P "_wall" 193 (.ref 21), ee P "Position" 235 (.ref 45), ee P "position_of" 247 (.ref 56), ee P "ToolError" 285 (.ref 81), ee P "TableError" 301 (.ref 94), ee P "ScanError" 317 (.ref 106), ee P "Token" 366 (.ref 140), ee P "end_token" 373 (.ref 151), ee P "DEAD" 378 (.int (-1) 377), ee P "Dfa" 445 (.ref 201), ee P "endings" 458 (.ref 213), ee P "Cut" 495 (.ref 230), ee P "LexTables" 571 (.ref 279), ee P "any_reject" 580 (.ref 290), ee P "is_final" 588 (.ref 297), ee P "cut_length" 598 (.ref 304), ee P "searched_cut" 611 (.ref 311), ee P "Reader" 785 (.ref 433), ee P "Scanner" 845 (.ref 476), ee P "trace" 860 (.ref 485), ee P "TOP" 864 (.int 127 863), ee P "CharSet" 1115 (.ref 651), ee P "Classes" 1230 (.ref 727), ee P "LexStep" 1277 (.ref 763), ee P "LexRule" 1358 (.ref 824), ee P "_law_NUMBERS" 1370 (.ref 829), ee P "_law_pen" 1379 (.ref 836), ee P "_law_draw" 1388 (.ref 843), ee P "_law_automaton" 1394 (.ref 848), ee P "_law_cut" 1402 (.ref 855), ee P "_law_body" 1410 (.ref 862), ee P "_law_choice" 1424 (.ref 869), ee P "_law_due" 1442 (.ref 876), ee P "_law_line" 1454 (.ref 883), ee P "law" 1460 (.ref 888)] 44, #[]⟩
noncomputable def b12x8 (P : Params) : Obj := ⟨.none, none, .fields #[.int 1 0, .int 0 0, .ref 20, .int 5 0, .int 0 0, .ref 27, .int 14 0, .int 0 0, .ref 55, .int 23 0, .int 0 0, .ref 62, .int 34 0, .int 0 0, .ref 90, .int 36 0, .int 0 0, .ref 102, .int 38 0, .int 0 0, .ref 114, .int 51 0, .int 0 0, .ref 150, .int 55 0, .int 0 0, .ref 157, .int 77 0, .int 0 0, .ref 212, .int 88 0, .int 0 0, .ref 219, .int 95 0, .int 0 0, .ref 240, .int 119 0, .int 0 0, .ref 289, .int 125 0, .int 0 0, .ref 296, .int 127 0, .int 0 0, .ref 303, .int 136 0, .int 0 0, .ref 310, .int 153 0, .int 0 0, .ref 317, .int 273 0, .int 0 0, .ref 443, .int 298 0, .int 0 0, .ref 484, .int 314 0, .int 0 0, .ref 491, .int 410 0, .int 0 0, .ref 661, .int 474 0, .int 0 0, .ref 737, .int 485 0, .int 0 0, .ref 773, .int 517 0, .int 0 0, .ref 835, .int 522 0, .int 0 0, .ref 842, .int 528 0, .int 0 0, .ref 847, .int 532 0, .int 0 0, .ref 854, .int 539 0, .int 0 0, .ref 861, .int 541 0, .int 0 0, .ref 868, .int 550 0, .int 0 0, .ref 875, .int 563 0, .int 0 0, .ref 882, .int 567 0, .int 0 0, .ref 887], #[]⟩
noncomputable def b839 (P : Params) : Obj := ⟨.type "tuple", none, .seq #[.str "pen" 1383, .str "many" 1384, .str "digit" 1385] 0, #[]⟩
noncomputable def b841 (P : Params) : Obj := ⟨.none, none, .func ⟨"_law_draw", "_law_draw", dP (sA 34), dB (sA 34), dS (sA 34), 0, [], .none, .none, .none, .none, none, .none, .none, 0⟩, #[]⟩
noncomputable def b842 (P : Params) : Obj := ⟨.type "code", none, .fields #[.str "_law_draw" 1380, .str "_law_draw" 1381, .str "/claim/cut.py" 1382, .int 522 0, .int 2 0, .int 0 0, .int 0 0, .int 3 0, .ref 837, .bool true, .int 181 0, .ref 838, .none, .ref 839, .ref 840, .ref 841, .int 1386 0, .int 522 0, .str "/claim/cut.py" 1387], #[]⟩
noncomputable def b843 (P : Params) : Obj := ⟨.type "function", none, .func ⟨"_law_draw", "_law_draw", dP (sA 34), dB (sA 34), dS (sA 34), 3, [], .none, .none, .none, .str "law_qd0070_01" 1359, none, .ref 842, .none, 0⟩, #[]⟩
noncomputable def b846 (P : Params) : Obj := ⟨.none, none, .func ⟨"_law_automaton", "_law_automaton", dP (sA 35), dB (sA 35), dS (sA 35), 0, [], .none, .none, .none, .none, none, .none, .none, 0⟩, #[]⟩
noncomputable def b847 (P : Params) : Obj := ⟨.type "code", none, .fields #[.str "_law_automaton" 1389, .str "_law_automaton" 1390, .str "/claim/cut.py" 1391, .int 528 0, .int 1 0, .int 0 0, .int 0 0, .int 3 0, .ref 844, .bool true, .int 181 0, .ref 845, .none, .none, .none, .ref 846, .int 1392 0, .int 528 0, .str "/claim/cut.py" 1393], #[]⟩
noncomputable def b848 (P : Params) : Obj := ⟨.type "function", none, .func ⟨"_law_automaton", "_law_automaton", dP (sA 35), dB (sA 35), dS (sA 35), 3, [], .none, .none, .none, .str "law_qd0070_01" 1359, none, .ref 847, .none, 0⟩, #[]⟩
noncomputable def b851 (P : Params) : Obj := ⟨.type "tuple", none, .seq #[.str "pen" 1398, .str "way" 1399] 0, #[]⟩
noncomputable def b853 (P : Params) : Obj := ⟨.none, none, .func ⟨"_law_cut", "_law_cut", dP (sA 36), dB (sA 36), dS (sA 36), 0, [], .none, .none, .none, .none, none, .none, .none, 0⟩, #[]⟩
noncomputable def b854 (P : Params) : Obj := ⟨.type "code", none, .fields #[.str "_law_cut" 1395, .str "_law_cut" 1396, .str "/claim/cut.py" 1397, .int 532 0, .int 1 0, .int 0 0, .int 0 0, .int 3 0, .ref 849, .bool true, .int 181 0, .ref 850, .none, .ref 851, .ref 852, .ref 853, .int 1400 0, .int 532 0, .str "/claim/cut.py" 1401], #[]⟩
noncomputable def b855 (P : Params) : Obj := ⟨.type "function", none, .func ⟨"_law_cut", "_law_cut", dP (sA 36), dB (sA 36), dS (sA 36), 3, [], .none, .none, .none, .str "law_qd0070_01" 1359, none, .ref 854, .none, 0⟩, #[]⟩
noncomputable def b858 (P : Params) : Obj := ⟨.type "tuple", none, .seq #[.str "cut" 1406, .str "many" 1407] 0, #[]⟩
noncomputable def b860 (P : Params) : Obj := ⟨.none, none, .func ⟨"_law_body", "_law_body", dP (sA 37), dB (sA 37), dS (sA 37), 0, [], .none, .none, .none, .none, none, .none, .none, 0⟩, #[]⟩
noncomputable def b861 (P : Params) : Obj := ⟨.type "code", none, .fields #[.str "_law_body" 1403, .str "_law_body" 1404, .str "/claim/cut.py" 1405, .int 539 0, .int 2 0, .int 0 0, .int 0 0, .int 3 0, .ref 856, .bool true, .int 181 0, .ref 857, .none, .ref 858, .ref 859, .ref 860, .int 1408 0, .int 539 0, .str "/claim/cut.py" 1409], #[]⟩
noncomputable def b862 (P : Params) : Obj := ⟨.type "function", none, .func ⟨"_law_body", "_law_body", dP (sA 37), dB (sA 37), dS (sA 37), 3, [], .none, .none, .none, .str "law_qd0070_01" 1359, none, .ref 861, .none, 0⟩, #[]⟩
noncomputable def b865 (P : Params) : Obj := ⟨.type "tuple", none, .seq #[.str "automaton" 1414, .str "cuts" 1415, .str "text" 1416, .str "at" 1417, .str "found" 1418, .str "state" 1419, .str "end" 1420, .str "number" 1421] 0, #[]⟩
noncomputable def b867 (P : Params) : Obj := ⟨.none, none, .func ⟨"_law_choice", "_law_choice", dP (sA 38), dB (sA 38), dS (sA 38), 0, [], .none, .none, .none, .none, none, .none, .none, 0⟩, #[]⟩
noncomputable def b868 (P : Params) : Obj := ⟨.type "code", none, .fields #[.str "_law_choice" 1411, .str "_law_choice" 1412, .str "/claim/cut.py" 1413, .int 541 0, .int 4 0, .int 0 0, .int 0 0, .int 3 0, .ref 863, .bool true, .int 181 0, .ref 864, .none, .ref 865, .ref 866, .ref 867, .int 1422 0, .int 541 0, .str "/claim/cut.py" 1423], #[]⟩
noncomputable def b869 (P : Params) : Obj := ⟨.type "function", none, .func ⟨"_law_choice", "_law_choice", dP (sA 38), dB (sA 38), dS (sA 38), 3, [], .none, .none, .none, .str "law_qd0070_01" 1359, none, .ref 868, .none, 0⟩, #[]⟩
noncomputable def b872 (P : Params) : Obj := ⟨.type "tuple", none, .seq #[.str "automata" 1428, .str "cuts" 1429, .str "has_more" 1430, .str "text" 1431, .str "turns" 1432, .str "tokens" 1433, .str "echoed" 1434, .str "at" 1435, .str "first" 1436, .str "begins" 1437, .str "number" 1438, .str "end" 1439] 0, #[]⟩
noncomputable def b874 (P : Params) : Obj := ⟨.none, none, .func ⟨"_law_due", "_law_due", dP (sA 39), dB (sA 39), dS (sA 39), 0, [], .none, .none, .none, .none, none, .none, .none, 0⟩, #[]⟩
noncomputable def b875 (P : Params) : Obj := ⟨.type "code", none, .fields #[.str "_law_due" 1425, .str "_law_due" 1426, .str "/claim/cut.py" 1427, .int 550 0, .int 4 0, .int 0 0, .int 0 0, .int 3 0, .ref 870, .bool true, .int 181 0, .ref 871, .none, .ref 872, .ref 873, .ref 874, .int 1440 0, .int 550 0, .str "/claim/cut.py" 1441], #[]⟩
noncomputable def b876 (P : Params) : Obj := ⟨.type "function", none, .func ⟨"_law_due", "_law_due", dP (sA 39), dB (sA 39), dS (sA 39), 3, [], .none, .none, .none, .str "law_qd0070_01" 1359, none, .ref 875, .none, 0⟩, #[]⟩
noncomputable def b879 (P : Params) : Obj := ⟨.type "tuple", none, .seq #[.str "turn" 1446, .str "text" 1447, .str "number" 1448, .str "start" 1449, .str "end" 1450, .str "head" 1451] 0, #[]⟩
noncomputable def b881 (P : Params) : Obj := ⟨.none, none, .func ⟨"_law_line", "_law_line", dP (sA 40), dB (sA 40), dS (sA 40), 0, [], .none, .none, .none, .none, none, .none, .none, 0⟩, #[]⟩
noncomputable def b882 (P : Params) : Obj := ⟨.type "code", none, .fields #[.str "_law_line" 1443, .str "_law_line" 1444, .str "/claim/cut.py" 1445, .int 563 0, .int 2 0, .int 0 0, .int 0 0, .int 3 0, .ref 877, .bool true, .int 181 0, .ref 878, .none, .ref 879, .ref 880, .ref 881, .int 1452 0, .int 563 0, .str "/claim/cut.py" 1453], #[]⟩
noncomputable def b883 (P : Params) : Obj := ⟨.type "function", none, .func ⟨"_law_line", "_law_line", dP (sA 40), dB (sA 40), dS (sA 40), 3, [], .none, .none, .none, .str "law_qd0070_01" 1359, none, .ref 882, .none, 0⟩, #[]⟩
noncomputable def b886 (P : Params) : Obj := ⟨.none, none, .func ⟨"law", "law", dP (sA 41), dB (sA 41), dS (sA 41), 0, [], .none, .none, .none, .none, none, .none, .none, 0⟩, #[]⟩
noncomputable def b887 (P : Params) : Obj := ⟨.type "code", none, .fields #[.str "law" 1455, .str "law" 1456, .str "/claim/cut.py" 1457, .int 567 0, .int 1 0, .int 0 0, .int 0 0, .int 3 0, .ref 884, .bool true, .int 181 0, .ref 885, .none, .none, .none, .ref 886, .int 1458 0, .int 567 0, .str "/claim/cut.py" 1459], #[]⟩
noncomputable def b888 (P : Params) : Obj := ⟨.type "function", none, .func ⟨"law", "law", dP (sA 41), dB (sA 41), dS (sA 41), 3, [], .none, .none, .none, .str "law_qd0070_01" 1359, none, .ref 887, .none, 0⟩, #[]⟩
noncomputable def tr0 (P : Params) : BT := (node (b0 P) (node (b1 P) (node (b3 P) (node (b7 P) nil nil) (node (b7 P) nil nil)) (node (b5 P) (node (b9 P) nil nil) (node (b13 P) nil nil))) (node (b2 P) (node (b4 P) (node (b8 P) nil nil) (node (b8 P) nil nil)) (node (b6 P) (node (b10 P) nil nil) (node (b14 P) nil nil))))
noncomputable def tr1 (P : Params) : BT := (node (b0 P) (node (b1 P) (node (b3x1 P) (node (b7 P) (node (b7 P) (node (b31 P) (node (b63 P) (node (b7 P) nil nil) nil) (node (b95 P) nil nil)) (node (b47 P) (node (b79 P) (node (b143 P) nil nil) nil) (node (b111 P) nil nil))) (node (b23 P) (node (b7 P) (node (b71 P) (node (b135 P) nil nil) nil) (node (b103 P) nil nil)) (node (b55 P) (node (b87 P) (node (b151 P) nil nil) nil) (node (b119 P) nil nil)))) (node (b7 P) (node (b19 P) (node (b35 P) (node (b67 P) (node (b7 P) nil nil) nil) (node (b99 P) nil nil)) (node (b8 P) (node (b83 P) (node (b147 P) nil nil) nil) (node (b115 P) nil nil))) (node (b27 P) (node (b43 P) (node (b7 P) (node (b139 P) nil nil) nil) (node (b107 P) nil nil)) (node (b59 P) (node (b91 P) nil nil) (node (b123 P) nil nil))))) (node (b5 P) (node (b9 P) (node (b17 P) (node (b33 P) (node (b7 P) (node (b129 P) nil nil) nil) (node (b85 P) nil nil)) (node (b49 P) (node (b81 P) (node (b7 P) nil nil) nil) (node (b113 P) nil nil))) (node (b7 P) (node (b41 P) (node (b8 P) (node (b137 P) nil nil) nil) (node (b105 P) nil nil)) (node (b57 P) (node (b8 P) nil nil) (node (b121 P) nil nil)))) (node (b13 P) (node (b21 P) (node (b8 P) (node (b69 P) (node (b133 P) nil nil) nil) (node (b8 P) nil nil)) (node (b7 P) (node (b85 P) (node (b149 P) nil nil) nil) (node (b7 P) nil nil))) (node (b7 P) (node (b45 P) (node (b77 P) (node (b141 P) nil nil) nil) (node (b7 P) nil nil)) (node (b61 P) (node (b93 P) nil nil) (node (b8 P) nil nil)))))) (node (b2x1 P) (node (b4 P) (node (b8 P) (node (b8 P) (node (b7 P) (node (b64 P) (node (b128 P) nil nil) nil) (node (b96 P) nil nil)) (node (b48 P) (node (b80 P) (node (b144 P) nil nil) nil) (node (b7 P) nil nil))) (node (b24 P) (node (b40 P) (node (b7 P) (node (b136 P) nil nil) nil) (node (b7 P) nil nil)) (node (b56 P) (node (b7 P) nil nil) (node (b7 P) nil nil)))) (node (b12x1 P) (node (b20 P) (node (b7 P) (node (b7 P) (node (b8 P) nil nil) nil) (node (b7 P) nil nil)) (node (b52 P) (node (b84 P) (node (b7 P) nil nil) nil) (node (b64 P) nil nil))) (node (b28 P) (node (b44 P) (node (b76 P) (node (b140 P) nil nil) nil) (node (b108 P) nil nil)) (node (b7 P) (node (b7 P) nil nil) (node (b7 P) nil nil))))) (node (b6 P) (node (b10 P) (node (b7 P) (node (b34 P) (node (b8 P) (node (b130 P) nil nil) nil) (node (b23 P) nil nil)) (node (b7 P) (node (b82 P) (node (b8 P) nil nil) nil) (node (b114 P) nil nil))) (node (b26 P) (node (b42 P) (node (b74 P) (node (b138 P) nil nil) nil) (node (b106 P) nil nil)) (node (b23 P) (node (b90 P) nil nil) (node (b122 P) nil nil)))) (node (b14 P) (node (b7 P) (node (b38 P) (node (b70 P) (node (b7 P) nil nil) nil) (node (b102 P) nil nil)) (node (b54 P) (node (b23 P) (node (b150 P) nil nil) nil) (node (b8 P) nil nil))) (node (b8 P) (node (b46 P) (node (b78 P) (node (b142 P) nil nil) nil) (node (b23 P) nil nil)) (node (b62 P) (node (b94 P) nil nil) (node (b126 P) nil nil)))))))
noncomputable def tr2 (P : Params) : BT := (node (b0 P) (node (b1 P) (node (b3x2 P) (node (b7 P) (node (b7 P) (node (b31 P) (node (b63 P) (node (b7 P) (node (b255 P) nil nil) nil) (node (b191 P) nil nil)) (node (b95 P) (node (b7 P) nil nil) (node (b223 P) nil nil))) (node (b47 P) (node (b79 P) (node (b143 P) (node (b8 P) nil nil) nil) (node (b7 P) nil nil)) (node (b111 P) (node (b175 P) nil nil) (node (b239 P) nil nil)))) (node (b23 P) (node (b7 P) (node (b71 P) (node (b135 P) (node (b7 P) nil nil) nil) (node (b199 P) nil nil)) (node (b103 P) (node (b8 P) nil nil) (node (b231 P) nil nil))) (node (b55 P) (node (b87 P) (node (b151 P) (node (b279 P) nil nil) nil) (node (b23 P) nil nil)) (node (b119 P) (node (b7 P) nil nil) (node (b247 P) nil nil))))) (node (b7 P) (node (b19 P) (node (b35 P) (node (b67 P) (node (b7 P) (node (b7 P) nil nil) nil) (node (b8 P) nil nil)) (node (b99 P) (node (b163 P) nil nil) (node (b227 P) nil nil))) (node (b8 P) (node (b83 P) (node (b147 P) (node (b275 P) nil nil) nil) (node (b211 P) nil nil)) (node (b115 P) (node (b179 P) nil nil) (node (b8 P) nil nil)))) (node (b27 P) (node (b43 P) (node (b7 P) (node (b139 P) (node (b267 P) nil nil) nil) (node (b203 P) nil nil)) (node (b107 P) (node (b171 P) nil nil) (node (b7 P) nil nil))) (node (b59 P) (node (b91 P) (node (b7 P) (node (b283 P) nil nil) nil) (node (b219 P) nil nil)) (node (b123 P) (node (b7 P) nil nil) (node (b251 P) nil nil)))))) (node (b5 P) (node (b9 P) (node (b17 P) (node (b33 P) (node (b7 P) (node (b129 P) (node (b8 P) nil nil) nil) (node (b193 P) nil nil)) (node (b85 P) (node (b161 P) nil nil) (node (b225 P) nil nil))) (node (b49 P) (node (b81 P) (node (b7 P) (node (b7 P) nil nil) nil) (node (b209 P) nil nil)) (node (b113 P) (node (b177 P) nil nil) (node (b241 P) nil nil)))) (node (b7 P) (node (b41 P) (node (b8 P) (node (b137 P) (node (b265 P) nil nil) nil) (node (b201 P) nil nil)) (node (b105 P) (node (b7 P) nil nil) (node (b233 P) nil nil))) (node (b57 P) (node (b8 P) (node (b23 P) (node (b281 P) nil nil) nil) (node (b7 P) nil nil)) (node (b121 P) (node (b185 P) nil nil) (node (b7 P) nil nil))))) (node (b13 P) (node (b21 P) (node (b8 P) (node (b69 P) (node (b133 P) (node (b261 P) nil nil) nil) (node (b197 P) nil nil)) (node (b8 P) (node (b165 P) nil nil) (node (b229 P) nil nil))) (node (b7 P) (node (b85 P) (node (b149 P) (node (b277 P) nil nil) nil) (node (b213 P) nil nil)) (node (b7 P) (node (b8 P) nil nil) (node (b7 P) nil nil)))) (node (b7 P) (node (b45 P) (node (b77 P) (node (b141 P) (node (b269 P) nil nil) nil) (node (b205 P) nil nil)) (node (b7 P) (node (b7 P) nil nil) (node (b237 P) nil nil))) (node (b61 P) (node (b93 P) (node (b157 P) nil nil) (node (b7 P) nil nil)) (node (b8 P) (node (b189 P) nil nil) (node (b253 P) nil nil))))))) (node (b2x1 P) (node (b4 P) (node (b8 P) (node (b8 P) (node (b7 P) (node (b64 P) (node (b128 P) (node (b7 P) nil nil) nil) (node (b192 P) nil nil)) (node (b96 P) (node (b8 P) nil nil) (node (b7 P) nil nil))) (node (b48 P) (node (b80 P) (node (b144 P) (node (b272 P) nil nil) nil) (node (b8 P) nil nil)) (node (b7 P) (node (b7 P) nil nil) (node (b240 P) nil nil)))) (node (b24 P) (node (b40 P) (node (b7 P) (node (b136 P) (node (b8 P) nil nil) nil) (node (b200 P) nil nil)) (node (b7 P) (node (b168 P) nil nil) (node (b232 P) nil nil))) (node (b56 P) (node (b7 P) (node (b7 P) (node (b280 P) nil nil) nil) (node (b216 P) nil nil)) (node (b7 P) (node (b184 P) nil nil) (node (b248 P) nil nil))))) (node (b12x2 P) (node (b20 P) (node (b7 P) (node (b7 P) (node (b8 P) (node (b260 P) nil nil) nil) (node (b196 P) nil nil)) (node (b7 P) (node (b164 P) nil nil) (node (b228 P) nil nil))) (node (b52 P) (node (b84 P) (node (b7 P) (node (b276 P) nil nil) nil) (node (b212 P) nil nil)) (node (b64 P) (node (b7 P) nil nil) (node (b244 P) nil nil)))) (node (b28 P) (node (b44 P) (node (b76 P) (node (b140 P) (node (b268 P) nil nil) nil) (node (b204 P) nil nil)) (node (b108 P) (node (b172 P) nil nil) (node (b23 P) nil nil))) (node (b7 P) (node (b7 P) (node (b156 P) nil nil) (node (b220 P) nil nil)) (node (b7 P) (node (b8 P) nil nil) (node (b7 P) nil nil)))))) (node (b6 P) (node (b10 P) (node (b7 P) (node (b34 P) (node (b8 P) (node (b130 P) (node (b258 P) nil nil) nil) (node (b7 P) nil nil)) (node (b23 P) (node (b7 P) nil nil) (node (b226 P) nil nil))) (node (b7 P) (node (b82 P) (node (b8 P) (node (b274 P) nil nil) nil) (node (b7 P) nil nil)) (node (b114 P) (node (b178 P) nil nil) (node (b7 P) nil nil)))) (node (b26 P) (node (b42 P) (node (b74 P) (node (b138 P) (node (b7 P) nil nil) nil) (node (b202 P) nil nil)) (node (b106 P) (node (b170 P) nil nil) (node (b234 P) nil nil))) (node (b23 P) (node (b90 P) (node (b154 P) (node (b282 P) nil nil) nil) (node (b218 P) nil nil)) (node (b122 P) (node (b186 P) nil nil) (node (b8 P) nil nil))))) (node (b14 P) (node (b7 P) (node (b38 P) (node (b70 P) (node (b7 P) (node (b262 P) nil nil) nil) (node (b198 P) nil nil)) (node (b102 P) (node (b7 P) nil nil) (node (b230 P) nil nil))) (node (b54 P) (node (b23 P) (node (b150 P) (node (b278 P) nil nil) nil) (node (b7 P) nil nil)) (node (b8 P) (node (b182 P) nil nil) (node (b246 P) nil nil)))) (node (b8 P) (node (b46 P) (node (b78 P) (node (b142 P) (node (b7 P) nil nil) nil) (node (b206 P) nil nil)) (node (b23 P) (node (b8 P) nil nil) (node (b7 P) nil nil))) (node (b62 P) (node (b94 P) (node (b158 P) nil nil) (node (b8 P) nil nil)) (node (b126 P) (node (b7 P) nil nil) (node (b254 P) nil nil))))))))
noncomputable def tq0 (P : Params) : BT := (node (b111 P) (node (b175 P) (node (b303 P) nil nil) (node (b431 P) nil nil)) (node (b239 P) (node (b367 P) nil nil) nil))
noncomputable def tq1 (P : Params) : BT := (node (b135 P) (node (b7 P) nil nil) (node (b391 P) nil nil))
noncomputable def tq2 (P : Params) : BT := (node (b103 P) (node (b8 P) (node (b295 P) nil nil) (node (b423 P) nil nil)) (node (b231 P) (node (b359 P) nil nil) nil))
noncomputable def tq3 (P : Params) : BT := (node (b151 P) (node (b279 P) nil nil) (node (b407 P) nil nil))
noncomputable def tq4 (P : Params) : BT := (node (b163 P) (node (b7 P) nil nil) (node (b419 P) nil nil))
noncomputable def tq5 (P : Params) : BT := (node (b147 P) (node (b275 P) nil nil) (node (b7 P) nil nil))
noncomputable def tq6 (P : Params) : BT := (node (b115 P) (node (b179 P) (node (b307 P) nil nil) (node (b435 P) nil nil)) (node (b8 P) (node (b7 P) nil nil) nil))
noncomputable def tq7 (P : Params) : BT := (node (b139 P) (node (b267 P) nil nil) (node (b395 P) nil nil))
noncomputable def tq8 (P : Params) : BT := (node (b107 P) (node (b171 P) (node (b8 P) nil nil) (node (b7 P) nil nil)) (node (b7 P) (node (b363 P) nil nil) nil))
noncomputable def tq9 (P : Params) : BT := (node (b161 P) (node (b289 P) nil nil) (node (b7 P) nil nil))
noncomputable def tq10 (P : Params) : BT := (node (b137 P) (node (b265 P) nil nil) (node (b393 P) nil nil))
noncomputable def tq11 (P : Params) : BT := (node (b105 P) (node (b7 P) (node (b297 P) nil nil) (node (b8 P) nil nil)) (node (b233 P) (node (b7 P) nil nil) nil))
noncomputable def tq12 (P : Params) : BT := (node (b23 P) (node (b281 P) nil nil) (node (b409 P) nil nil))
noncomputable def tq13 (P : Params) : BT := (node (b133 P) (node (b261 P) nil nil) (node (b7 P) nil nil))
noncomputable def tq14 (P : Params) : BT := (node (b165 P) (node (b293 P) nil nil) (node (b421 P) nil nil))
noncomputable def tq15 (P : Params) : BT := (node (b149 P) (node (b277 P) nil nil) (node (b405 P) nil nil))
noncomputable def tq16 (P : Params) : BT := (node (b7 P) (node (b8 P) (node (b309 P) nil nil) (node (b437 P) nil nil)) (node (b7 P) (node (b373 P) nil nil) nil))
noncomputable def tq17 (P : Params) : BT := (node (b141 P) (node (b269 P) nil nil) (node (b8 P) nil nil))
noncomputable def tq18 (P : Params) : BT := (node (b7 P) (node (b7 P) (node (b7 P) nil nil) (node (b429 P) nil nil)) (node (b237 P) (node (b365 P) nil nil) nil))
noncomputable def tq19 (P : Params) : BT := (node (b128 P) (node (b7 P) nil nil) (node (b384 P) nil nil))
noncomputable def tq20 (P : Params) : BT := (node (b8 P) (node (b288 P) nil nil) (node (b416 P) nil nil))
noncomputable def tq21 (P : Params) : BT := (node (b144 P) (node (b272 P) nil nil) (node (b400 P) nil nil))
noncomputable def tq22 (P : Params) : BT := (node (b7 P) (node (b7 P) (node (b304 P) nil nil) (node (b432 P) nil nil)) (node (b240 P) (node (b7 P) nil nil) nil))
noncomputable def tq23 (P : Params) : BT := (node (b7 P) (node (b168 P) (node (b296 P) nil nil) (node (b7 P) nil nil)) (node (b232 P) (node (b360 P) nil nil) nil))
noncomputable def tq24 (P : Params) : BT := (node (b7 P) (node (b280 P) nil nil) (node (b408 P) nil nil))
noncomputable def tq25 (P : Params) : BT := (node (b8 P) (node (b260 P) nil nil) (node (b388 P) nil nil))
noncomputable def tq26 (P : Params) : BT := (node (b64 P) (node (b7 P) (node (b7 P) nil nil) (node (b436 P) nil nil)) (node (b244 P) (node (b372 P) nil nil) nil))
noncomputable def tq27 (P : Params) : BT := (node (b140 P) (node (b268 P) nil nil) (node (b7 P) nil nil))
noncomputable def tq28 (P : Params) : BT := (node (b108 P) (node (b172 P) (node (b300 P) nil nil) (node (b428 P) nil nil)) (node (b23 P) (node (b7 P) nil nil) nil))
noncomputable def tq29 (P : Params) : BT := (node (b156 P) (node (b7 P) nil nil) (node (b412 P) nil nil))
noncomputable def tq30 (P : Params) : BT := (node (b130 P) (node (b258 P) nil nil) (node (b386 P) nil nil))
noncomputable def tq31 (P : Params) : BT := (node (b8 P) (node (b274 P) nil nil) (node (b402 P) nil nil))
noncomputable def tq32 (P : Params) : BT := (node (b114 P) (node (b178 P) (node (b8 P) nil nil) (node (b434 P) nil nil)) (node (b7 P) (node (b370 P) nil nil) nil))
noncomputable def tq33 (P : Params) : BT := (node (b138 P) (node (b7 P) nil nil) (node (b394 P) nil nil))
noncomputable def tq34 (P : Params) : BT := (node (b106 P) (node (b170 P) (node (b7 P) nil nil) (node (b426 P) nil nil)) (node (b234 P) (node (b8 P) nil nil) nil))
noncomputable def tq35 (P : Params) : BT := (node (b154 P) (node (b282 P) nil nil) (node (b7 P) nil nil))
noncomputable def tq36 (P : Params) : BT := (node (b102 P) (node (b7 P) (node (b7 P) nil nil) (node (b422 P) nil nil)) (node (b230 P) (node (b358 P) nil nil) nil))
noncomputable def tq37 (P : Params) : BT := (node (b150 P) (node (b278 P) nil nil) (node (b7 P) nil nil))
noncomputable def tq38 (P : Params) : BT := (node (b142 P) (node (b7 P) nil nil) (node (b398 P) nil nil))
noncomputable def tq39 (P : Params) : BT := (node (b23 P) (node (b8 P) (node (b302 P) nil nil) (node (b430 P) nil nil)) (node (b7 P) (node (b366 P) nil nil) nil))
noncomputable def tq40 (P : Params) : BT := (node (b158 P) (node (b286 P) nil nil) (node (b414 P) nil nil))
noncomputable def tr3 (P : Params) : BT := (node (b0 P) (node (b1 P) (node (b3x3 P) (node (b7 P) (node (b7 P) (node (b31 P) (node (b63 P) (node (b7 P) (node (b255 P) nil nil) (node (b8 P) nil nil)) (node (b191 P) (node (b7 P) nil nil) nil)) (node (b95 P) (node (b7 P) (node (b7 P) nil nil) (node (b415 P) nil nil)) (node (b223 P) (node (b351 P) nil nil) nil))) (node (b47 P) (node (b79 P) (node (b143 P) (node (b8 P) nil nil) (node (b7 P) nil nil)) (node (b7 P) (node (b335 P) nil nil) nil)) (tq0 P))) (node (b23 P) (node (b7 P) (node (b71 P) (tq1 P) (node (b199 P) (node (b8 P) nil nil) nil)) (tq2 P)) (node (b55 P) (node (b87 P) (tq3 P) (node (b23 P) (node (b7 P) nil nil) nil)) (node (b119 P) (node (b7 P) (node (b311 P) nil nil) nil) (node (b247 P) (node (b7 P) nil nil) nil))))) (node (b7 P) (node (b19 P) (node (b35 P) (node (b67 P) (node (b7 P) (node (b7 P) nil nil) (node (b387 P) nil nil)) (node (b8 P) (node (b323 P) nil nil) nil)) (node (b99 P) (tq4 P) (node (b227 P) (node (b8 P) nil nil) nil))) (node (b8 P) (node (b83 P) (tq5 P) (node (b211 P) (node (b339 P) nil nil) nil)) (tq6 P))) (node (b27 P) (node (b43 P) (node (b7 P) (tq7 P) (node (b203 P) (node (b331 P) nil nil) nil)) (tq8 P)) (node (b59 P) (node (b91 P) (node (b7 P) (node (b283 P) nil nil) (node (b8 P) nil nil)) (node (b219 P) (node (b7 P) nil nil) nil)) (node (b123 P) (node (b7 P) (node (b7 P) nil nil) nil) (node (b251 P) (node (b379 P) nil nil) nil)))))) (node (b5 P) (node (b9 P) (node (b17 P) (node (b33 P) (node (b7 P) (node (b129 P) (node (b8 P) nil nil) (node (b7 P) nil nil)) (node (b193 P) (node (b321 P) nil nil) nil)) (node (b85 P) (tq9 P) (node (b225 P) (node (b353 P) nil nil) nil))) (node (b49 P) (node (b81 P) (node (b7 P) (node (b7 P) nil nil) (node (b401 P) nil nil)) (node (b209 P) (node (b337 P) nil nil) nil)) (node (b113 P) (node (b177 P) (node (b7 P) nil nil) (node (b433 P) nil nil)) (node (b241 P) (node (b8 P) nil nil) nil)))) (node (b7 P) (node (b41 P) (node (b8 P) (tq10 P) (node (b201 P) (node (b7 P) nil nil) nil)) (tq11 P)) (node (b57 P) (node (b8 P) (tq12 P) (node (b7 P) (node (b345 P) nil nil) nil)) (node (b121 P) (node (b185 P) (node (b23 P) nil nil) nil) (node (b7 P) (node (b377 P) nil nil) nil))))) (node (b13 P) (node (b21 P) (node (b8 P) (node (b69 P) (tq13 P) (node (b197 P) (node (b325 P) nil nil) nil)) (node (b8 P) (tq14 P) (node (b229 P) (node (b7 P) nil nil) nil))) (node (b7 P) (node (b85 P) (tq15 P) (node (b213 P) (node (b8 P) nil nil) nil)) (tq16 P))) (node (b7 P) (node (b45 P) (node (b77 P) (tq17 P) (node (b205 P) (node (b7 P) nil nil) nil)) (tq18 P)) (node (b61 P) (node (b93 P) (node (b157 P) (node (b8 P) nil nil) (node (b7 P) nil nil)) (node (b7 P) (node (b349 P) nil nil) nil)) (node (b8 P) (node (b189 P) (node (b317 P) nil nil) nil) (node (b253 P) (node (b381 P) nil nil) nil))))))) (node (b2x1 P) (node (b4 P) (node (b8 P) (node (b8 P) (node (b7 P) (node (b64 P) (tq19 P) (node (b192 P) (node (b8 P) nil nil) nil)) (node (b96 P) (tq20 P) (node (b7 P) (node (b352 P) nil nil) nil))) (node (b48 P) (node (b80 P) (tq21 P) (node (b8 P) (node (b7 P) nil nil) nil)) (tq22 P))) (node (b24 P) (node (b40 P) (node (b7 P) (node (b136 P) (node (b8 P) nil nil) (node (b7 P) nil nil)) (node (b200 P) (node (b328 P) nil nil) nil)) (tq23 P)) (node (b56 P) (node (b7 P) (tq24 P) (node (b216 P) (node (b344 P) nil nil) nil)) (node (b7 P) (node (b184 P) (node (b7 P) nil nil) nil) (node (b248 P) (node (b8 P) nil nil) nil))))) (node (b12x3 P) (node (b20 P) (node (b7 P) (node (b7 P) (tq25 P) (node (b196 P) (node (b324 P) nil nil) nil)) (node (b7 P) (node (b164 P) (node (b8 P) nil nil) (node (b7 P) nil nil)) (node (b228 P) (node (b356 P) nil nil) nil))) (node (b52 P) (node (b84 P) (node (b7 P) (node (b276 P) nil nil) (node (b8 P) nil nil)) (node (b212 P) (node (b7 P) nil nil) nil)) (tq26 P))) (node (b28 P) (node (b44 P) (node (b76 P) (tq27 P) (node (b204 P) (node (b332 P) nil nil) nil)) (tq28 P)) (node (b7 P) (node (b7 P) (tq29 P) (node (b220 P) (node (b8 P) nil nil) nil)) (node (b7 P) (node (b8 P) (node (b316 P) nil nil) nil) (node (b7 P) (node (b380 P) nil nil) nil)))))) (node (b6 P) (node (b10 P) (node (b7 P) (node (b34 P) (node (b8 P) (tq30 P) (node (b7 P) (node (b7 P) nil nil) nil)) (node (b23 P) (node (b7 P) (node (b290 P) nil nil) (node (b8 P) nil nil)) (node (b226 P) (node (b7 P) nil nil) nil))) (node (b7 P) (node (b82 P) (tq31 P) (node (b7 P) (node (b338 P) nil nil) nil)) (tq32 P))) (node (b26 P) (node (b42 P) (node (b74 P) (tq33 P) (node (b202 P) (node (b330 P) nil nil) nil)) (tq34 P)) (node (b23 P) (node (b90 P) (tq35 P) (node (b218 P) (node (b346 P) nil nil) nil)) (node (b122 P) (node (b186 P) (node (b314 P) nil nil) nil) (node (b8 P) (node (b7 P) nil nil) nil))))) (node (b14 P) (node (b7 P) (node (b38 P) (node (b70 P) (node (b7 P) (node (b262 P) nil nil) (node (b8 P) nil nil)) (node (b198 P) (node (b7 P) nil nil) nil)) (tq36 P)) (node (b54 P) (node (b23 P) (tq37 P) (node (b7 P) (node (b342 P) nil nil) nil)) (node (b8 P) (node (b182 P) (node (b310 P) nil nil) nil) (node (b246 P) (node (b374 P) nil nil) nil)))) (node (b8 P) (node (b46 P) (node (b78 P) (tq38 P) (node (b206 P) (node (b8 P) nil nil) nil)) (tq39 P)) (node (b62 P) (node (b94 P) (tq40 P) (node (b8 P) (node (b7 P) nil nil) nil)) (node (b126 P) (node (b7 P) (node (b318 P) nil nil) nil) (node (b254 P) (node (b7 P) nil nil) nil))))))))
noncomputable def tr4 (P : Params) : BT := (node (b0 P) (node (b1 P) (node (b3x4 P) (node (b7 P) (node (b7 P) (node (b31 P) (node (b63 P) (node (b7 P) (node (b255 P) nil nil) (node (b8 P) nil nil)) (node (b191 P) (node (b7 P) nil nil) (node (b8 P) nil nil))) (node (b95 P) (node (b7 P) (node (b7 P) nil nil) (node (b415 P) nil nil)) (node (b223 P) (node (b351 P) nil nil) (node (b7 P) nil nil)))) (node (b47 P) (node (b79 P) (node (b143 P) (node (b8 P) nil nil) (node (b7 P) nil nil)) (node (b7 P) (node (b335 P) nil nil) (node (b7 P) nil nil))) (tq0 P))) (node (b23 P) (node (b7 P) (node (b71 P) (tq1 P) (node (b199 P) (node (b8 P) nil nil) (node (b455 P) nil nil))) (tq2 P)) (node (b55 P) (node (b87 P) (tq3 P) (node (b23 P) (node (b7 P) nil nil) (node (b471 P) nil nil))) (node (b119 P) (node (b7 P) (node (b311 P) nil nil) (node (b23 P) nil nil)) (node (b247 P) (node (b7 P) nil nil) nil))))) (node (b7 P) (node (b19 P) (node (b35 P) (node (b67 P) (node (b7 P) (node (b7 P) nil nil) (node (b387 P) nil nil)) (node (b8 P) (node (b323 P) nil nil) (node (b451 P) nil nil))) (node (b99 P) (tq4 P) (node (b227 P) (node (b8 P) nil nil) (node (b483 P) nil nil)))) (node (b8 P) (node (b83 P) (tq5 P) (node (b211 P) (node (b339 P) nil nil) (node (b7 P) nil nil))) (tq6 P))) (node (b27 P) (node (b43 P) (node (b7 P) (tq7 P) (node (b203 P) (node (b331 P) nil nil) (node (b459 P) nil nil))) (tq8 P)) (node (b59 P) (node (b91 P) (node (b7 P) (node (b283 P) nil nil) (node (b8 P) nil nil)) (node (b219 P) (node (b7 P) nil nil) (node (b475 P) nil nil))) (node (b123 P) (node (b7 P) (node (b7 P) nil nil) (node (b443 P) nil nil)) (node (b251 P) (node (b379 P) nil nil) nil)))))) (node (b5 P) (node (b9 P) (node (b17 P) (node (b33 P) (node (b7 P) (node (b129 P) (node (b8 P) nil nil) (node (b7 P) nil nil)) (node (b193 P) (node (b321 P) nil nil) (node (b7 P) nil nil))) (node (b85 P) (tq9 P) (node (b225 P) (node (b353 P) nil nil) (node (b481 P) nil nil)))) (node (b49 P) (node (b81 P) (node (b7 P) (node (b7 P) nil nil) (node (b401 P) nil nil)) (node (b209 P) (node (b337 P) nil nil) (node (b465 P) nil nil))) (node (b113 P) (node (b177 P) (node (b7 P) nil nil) (node (b433x4 P) nil nil)) (node (b241 P) (node (b8 P) nil nil) nil)))) (node (b7 P) (node (b41 P) (node (b8 P) (tq10 P) (node (b201 P) (node (b7 P) nil nil) (node (b457 P) nil nil))) (tq11 P)) (node (b57 P) (node (b8 P) (tq12 P) (node (b7 P) (node (b345 P) nil nil) (node (b473 P) nil nil))) (node (b121 P) (node (b185 P) (node (b23 P) nil nil) (node (b7 P) nil nil)) (node (b7 P) (node (b377 P) nil nil) nil))))) (node (b13 P) (node (b21 P) (node (b8 P) (node (b69 P) (tq13 P) (node (b197 P) (node (b325 P) nil nil) (node (b7 P) nil nil))) (node (b8 P) (tq14 P) (node (b229 P) (node (b7 P) nil nil) (node (b485 P) nil nil)))) (node (b7 P) (node (b85 P) (tq15 P) (node (b213 P) (node (b8 P) nil nil) (node (b469 P) nil nil))) (tq16 P))) (node (b7 P) (node (b45 P) (node (b77 P) (tq17 P) (node (b205 P) (node (b7 P) nil nil) (node (b8 P) nil nil))) (tq18 P)) (node (b61 P) (node (b93 P) (node (b157 P) (node (b8 P) nil nil) (node (b7 P) nil nil)) (node (b7 P) (node (b349 P) nil nil) (node (b477 P) nil nil))) (node (b8 P) (node (b189 P) (node (b317 P) nil nil) (node (b445 P) nil nil)) (node (b253 P) (node (b381 P) nil nil) nil))))))) (node (b2x1 P) (node (b4 P) (node (b8 P) (node (b8 P) (node (b7 P) (node (b64 P) (tq19 P) (node (b192 P) (node (b8 P) nil nil) (node (b448 P) nil nil))) (node (b96 P) (tq20 P) (node (b7 P) (node (b352 P) nil nil) (node (b8 P) nil nil)))) (node (b48 P) (node (b80 P) (tq21 P) (node (b8 P) (node (b7 P) nil nil) (node (b464 P) nil nil))) (tq22 P))) (node (b24 P) (node (b40 P) (node (b7 P) (node (b136 P) (node (b8 P) nil nil) (node (b7 P) nil nil)) (node (b200 P) (node (b328 P) nil nil) (node (b7 P) nil nil))) (tq23 P)) (node (b56 P) (node (b7 P) (tq24 P) (node (b216 P) (node (b344 P) nil nil) (node (b472 P) nil nil))) (node (b7 P) (node (b184 P) (node (b7 P) nil nil) (node (b440 P) nil nil)) (node (b248 P) (node (b8 P) nil nil) nil))))) (node (b12x4 P) (node (b20 P) (node (b7 P) (node (b7 P) (tq25 P) (node (b196 P) (node (b324 P) nil nil) (node (b452 P) nil nil))) (node (b7 P) (node (b164 P) (node (b8 P) nil nil) (node (b7 P) nil nil)) (node (b228 P) (node (b356 P) nil nil) (node (b484 P) nil nil)))) (node (b52 P) (node (b84 P) (node (b7 P) (node (b276 P) nil nil) (node (b8 P) nil nil)) (node (b212 P) (node (b7 P) nil nil) (node (b8 P) nil nil))) (tq26 P))) (node (b28 P) (node (b44 P) (node (b76 P) (tq27 P) (node (b204 P) (node (b332 P) nil nil) (node (b7 P) nil nil))) (tq28 P)) (node (b7 P) (node (b7 P) (tq29 P) (node (b220 P) (node (b8 P) nil nil) (node (b476 P) nil nil))) (node (b7 P) (node (b8 P) (node (b316 P) nil nil) (node (b444 P) nil nil)) (node (b7 P) (node (b380 P) nil nil) nil)))))) (node (b6 P) (node (b10 P) (node (b7 P) (node (b34 P) (node (b8 P) (tq30 P) (node (b7 P) (node (b7 P) nil nil) (node (b450 P) nil nil))) (node (b23 P) (node (b7 P) (node (b290 P) nil nil) (node (b8 P) nil nil)) (node (b226 P) (node (b7 P) nil nil) (node (b7 P) nil nil)))) (node (b7 P) (node (b82 P) (tq31 P) (node (b7 P) (node (b338 P) nil nil) (node (b466 P) nil nil))) (tq32 P))) (node (b26 P) (node (b42 P) (node (b74 P) (tq33 P) (node (b202 P) (node (b330 P) nil nil) (node (b458 P) nil nil))) (tq34 P)) (node (b23 P) (node (b90 P) (tq35 P) (node (b218 P) (node (b346 P) nil nil) (node (b474 P) nil nil))) (node (b122 P) (node (b186 P) (node (b314 P) nil nil) (node (b442 P) nil nil)) (node (b8 P) (node (b7 P) nil nil) nil))))) (node (b14 P) (node (b7 P) (node (b38 P) (node (b70 P) (node (b7 P) (node (b262 P) nil nil) (node (b8 P) nil nil)) (node (b198 P) (node (b7 P) nil nil) (node (b8 P) nil nil))) (tq36 P)) (node (b54 P) (node (b23 P) (tq37 P) (node (b7 P) (node (b342 P) nil nil) (node (b7 P) nil nil))) (node (b8 P) (node (b182 P) (node (b310 P) nil nil) (node (b438 P) nil nil)) (node (b246 P) (node (b374 P) nil nil) nil)))) (node (b8 P) (node (b46 P) (node (b78 P) (tq38 P) (node (b206 P) (node (b8 P) nil nil) (node (b462 P) nil nil))) (tq39 P)) (node (b62 P) (node (b94 P) (tq40 P) (node (b8 P) (node (b7 P) nil nil) (node (b478 P) nil nil))) (node (b126 P) (node (b7 P) (node (b318 P) nil nil) (node (b7 P) nil nil)) (node (b254 P) (node (b7 P) nil nil) nil))))))))
noncomputable def tr5 (P : Params) : BT := (node (b0 P) (node (b1 P) (node (b3x5 P) (node (b7 P) (node (b7 P) (node (b31 P) (node (b63 P) (node (b7 P) (node (b255 P) (node (b8 P) nil nil) nil) (node (b8 P) (node (b639 P) nil nil) nil)) (node (b191 P) (node (b7 P) (node (b7 P) nil nil) nil) (node (b8 P) nil nil))) (node (b95 P) (node (b7 P) (node (b7 P) (node (b543 P) nil nil) nil) (node (b415 P) nil nil)) (node (b223 P) (node (b351 P) (node (b7 P) nil nil) nil) (node (b7 P) nil nil)))) (node (b47 P) (node (b79 P) (node (b143 P) (node (b8 P) (node (b527 P) nil nil) nil) (node (b7 P) (node (b655 P) nil nil) nil)) (node (b7 P) (node (b335 P) (node (b591 P) nil nil) nil) (node (b7 P) nil nil))) (node (b111 P) (node (b175 P) (node (b303 P) (node (b8 P) nil nil) nil) (node (b431 P) nil nil)) (node (b239 P) (node (b367 P) (node (b623 P) nil nil) nil) (node (b495 P) nil nil))))) (node (b23 P) (node (b7 P) (node (b71 P) (node (b135 P) (node (b7 P) (node (b6 P) nil nil) nil) (node (b391 P) (node (b647 P) nil nil) nil)) (node (b199 P) (node (b8 P) (node (b583 P) nil nil) nil) (node (b455 P) nil nil))) (node (b103 P) (node (b8 P) (node (b295 P) (node (b7 P) nil nil) nil) (node (b423 P) nil nil)) (node (b231 P) (node (b359 P) (node (b8 P) nil nil) nil) (node (b23 P) nil nil)))) (node (b55 P) (node (b87 P) (node (b151 P) (node (b279 P) (node (b535 P) nil nil) nil) (node (b407 P) nil nil)) (node (b23 P) (node (b7 P) (node (b599 P) nil nil) nil) (node (b471 P) nil nil))) (node (b119 P) (node (b7 P) (node (b311 P) (node (b567 P) nil nil) nil) (node (b23 P) nil nil)) (node (b247 P) (node (b7 P) (node (b7 P) nil nil) nil) (node (b7 P) nil nil)))))) (node (b7 P) (node (b19 P) (node (b35 P) (node (b67 P) (node (b7 P) (node (b7 P) (node (b515 P) nil nil) nil) (node (b387 P) (node (b8 P) nil nil) nil)) (node (b8 P) (node (b323 P) (node (b7 P) nil nil) nil) (node (b451 P) nil nil))) (node (b99 P) (node (b163 P) (node (b7 P) (node (b6 P) nil nil) nil) (node (b419 P) nil nil)) (node (b227 P) (node (b8 P) (node (b611 P) nil nil) nil) (node (b483 P) nil nil)))) (node (b8 P) (node (b83 P) (node (b147 P) (node (b275 P) (node (b8 P) nil nil) nil) (node (b7 P) nil nil)) (node (b211 P) (node (b339 P) (node (b595 P) nil nil) nil) (node (b7 P) nil nil))) (node (b115 P) (node (b179 P) (node (b307 P) (node (b563 P) nil nil) nil) (node (b435 P) nil nil)) (node (b8 P) (node (b7 P) (node (b627 P) nil nil) nil) (node (b499 P) nil nil))))) (node (b27 P) (node (b43 P) (node (b7 P) (node (b139 P) (node (b267 P) (node (b7 P) nil nil) nil) (node (b395 P) (node (b651 P) nil nil) nil)) (node (b203 P) (node (b331 P) (node (b8 P) nil nil) nil) (node (b459 P) nil nil))) (node (b107 P) (node (b171 P) (node (b8 P) (node (b555 P) nil nil) nil) (node (b7 P) nil nil)) (node (b7 P) (node (b363 P) (node (b619 P) nil nil) nil) (node (b491 P) nil nil)))) (node (b59 P) (node (b91 P) (node (b7 P) (node (b283 P) (node (b8 P) nil nil) nil) (node (b8 P) nil nil)) (node (b219 P) (node (b7 P) (node (b7 P) nil nil) nil) (node (b475 P) nil nil))) (node (b123 P) (node (b7 P) (node (b7 P) (node (b571 P) nil nil) nil) (node (b443 P) nil nil)) (node (b251 P) (node (b379 P) (node (b7 P) nil nil) nil) (node (b507 P) nil nil))))))) (node (b5 P) (node (b9 P) (node (b17 P) (node (b33 P) (node (b7 P) (node (b129 P) (node (b8 P) (node (b7 P) nil nil) nil) (node (b7 P) (node (b641 P) nil nil) nil)) (node (b193 P) (node (b321 P) (node (b577 P) nil nil) nil) (node (b7 P) nil nil))) (node (b85 P) (node (b161 P) (node (b289 P) (node (b545 P) nil nil) nil) (node (b7 P) nil nil)) (node (b225 P) (node (b353 P) (node (b609 P) nil nil) nil) (node (b481 P) nil nil)))) (node (b49 P) (node (b81 P) (node (b7 P) (node (b7 P) (node (b6 P) nil nil) nil) (node (b401 P) nil nil)) (node (b209 P) (node (b337 P) (node (b7 P) nil nil) nil) (node (b465 P) nil nil))) (node (b113 P) (node (b177 P) (node (b7 P) (node (b7 P) nil nil) nil) (node (b433x4 P) nil nil)) (node (b241 P) (node (b8 P) (node (b625 P) nil nil) nil) (node (b497 P) nil nil))))) (node (b7 P) (node (b41 P) (node (b8 P) (node (b137 P) (node (b265 P) (node (b8 P) nil nil) nil) (node (b393 P) (node (b649 P) nil nil) nil)) (node (b201 P) (node (b7 P) (node (b585 P) nil nil) nil) (node (b457 P) nil nil))) (node (b105 P) (node (b7 P) (node (b297 P) (node (b553 P) nil nil) nil) (node (b8 P) nil nil)) (node (b233 P) (node (b7 P) (node (b7 P) nil nil) nil) (node (b7 P) nil nil)))) (node (b57 P) (node (b8 P) (node (b23 P) (node (b281 P) (node (b6 P) nil nil) nil) (node (b409 P) nil nil)) (node (b7 P) (node (b345 P) (node (b8 P) nil nil) nil) (node (b473 P) nil nil))) (node (b121 P) (node (b185 P) (node (b23 P) (node (b569 P) nil nil) nil) (node (b7 P) nil nil)) (node (b7 P) (node (b377 P) (node (b633 P) nil nil) nil) (node (b505 P) nil nil)))))) (node (b13 P) (node (b21 P) (node (b8 P) (node (b69 P) (node (b133 P) (node (b261 P) (node (b517 P) nil nil) nil) (node (b7 P) (node (b7 P) nil nil) nil)) (node (b197 P) (node (b325 P) (node (b581 P) nil nil) nil) (node (b7 P) nil nil))) (node (b8 P) (node (b165 P) (node (b293 P) (node (b8 P) nil nil) nil) (node (b421 P) nil nil)) (node (b229 P) (node (b7 P) (node (b613 P) nil nil) nil) (node (b485 P) nil nil)))) (node (b7 P) (node (b85 P) (node (b149 P) (node (b277 P) (node (b533 P) nil nil) nil) (node (b405 P) nil nil)) (node (b213 P) (node (b8 P) (node (b597 P) nil nil) nil) (node (b469 P) nil nil))) (node (b7 P) (node (b8 P) (node (b309 P) (node (b7 P) nil nil) nil) (node (b437 P) nil nil)) (node (b7 P) (node (b373 P) (node (b8 P) nil nil) nil) (node (b8 P) nil nil))))) (node (b7 P) (node (b45 P) (node (b77 P) (node (b141 P) (node (b269 P) (node (b525 P) nil nil) nil) (node (b8 P) (node (b653 P) nil nil) nil)) (node (b205 P) (node (b7 P) (node (b7 P) nil nil) nil) (node (b8 P) nil nil))) (node (b7 P) (node (b7 P) (node (b7 P) (node (b6 P) nil nil) nil) (node (b429 P) nil nil)) (node (b237 P) (node (b365 P) (node (b7 P) nil nil) nil) (node (b7 P) nil nil)))) (node (b61 P) (node (b93 P) (node (b157 P) (node (b8 P) (node (b7 P) nil nil) nil) (node (b7 P) nil nil)) (node (b7 P) (node (b349 P) (node (b605 P) nil nil) nil) (node (b477 P) nil nil))) (node (b8 P) (node (b189 P) (node (b317 P) (node (b8 P) nil nil) nil) (node (b445 P) nil nil)) (node (b253 P) (node (b381 P) (node (b637 P) nil nil) nil) (node (b6 P) nil nil)))))))) (node (b2x1 P) (node (b4 P) (node (b8 P) (node (b8 P) (node (b7 P) (node (b64 P) (node (b128 P) (node (b7 P) (node (b7 P) nil nil) nil) (node (b384 P) (node (b640 P) nil nil) nil)) (node (b192 P) (node (b8 P) (node (b576 P) nil nil) nil) (node (b448 P) nil nil))) (node (b96 P) (node (b8 P) (node (b288 P) (node (b544 P) nil nil) nil) (node (b416 P) nil nil)) (node (b7 P) (node (b352 P) (node (b8 P) nil nil) nil) (node (b8 P) nil nil)))) (node (b48 P) (node (b80 P) (node (b144 P) (node (b272 P) (node (b528 P) nil nil) nil) (node (b400 P) nil nil)) (node (b8 P) (node (b7 P) (node (b592 P) nil nil) nil) (node (b464 P) nil nil))) (node (b7 P) (node (b7 P) (node (b304 P) (node (b560 P) nil nil) nil) (node (b432 P) nil nil)) (node (b240 P) (node (b7 P) (node (b7 P) nil nil) nil) (node (b7 P) nil nil))))) (node (b24 P) (node (b40 P) (node (b7 P) (node (b136 P) (node (b8 P) (node (b7 P) nil nil) nil) (node (b7 P) (node (b648 P) nil nil) nil)) (node (b200 P) (node (b328 P) (node (b584 P) nil nil) nil) (node (b7 P) nil nil))) (node (b7 P) (node (b168 P) (node (b296 P) (node (b552 P) nil nil) nil) (node (b7 P) nil nil)) (node (b232 P) (node (b360 P) (node (b616 P) nil nil) nil) (node (b488 P) nil nil)))) (node (b56 P) (node (b7 P) (node (b7 P) (node (b280 P) (node (b536 P) nil nil) nil) (node (b408 P) nil nil)) (node (b216 P) (node (b344 P) (node (b7 P) nil nil) nil) (node (b472 P) nil nil))) (node (b7 P) (node (b184 P) (node (b7 P) (node (b7 P) nil nil) nil) (node (b440 P) nil nil)) (node (b248 P) (node (b8 P) (node (b632 P) nil nil) nil) (node (b504 P) nil nil)))))) (node (b12x5 P) (node (b20 P) (node (b7 P) (node (b7 P) (node (b8 P) (node (b260 P) (node (b516 P) nil nil) nil) (node (b388 P) (node (b644 P) nil nil) nil)) (node (b196 P) (node (b324 P) (node (b8 P) nil nil) nil) (node (b452 P) nil nil))) (node (b7 P) (node (b164 P) (node (b8 P) (node (b7 P) nil nil) nil) (node (b7 P) nil nil)) (node (b228 P) (node (b356 P) (node (b612 P) nil nil) nil) (node (b484 P) nil nil)))) (node (b52 P) (node (b84 P) (node (b7 P) (node (b276 P) (node (b532 P) nil nil) nil) (node (b8 P) nil nil)) (node (b212 P) (node (b7 P) (node (b7 P) nil nil) nil) (node (b8 P) nil nil))) (node (b64 P) (node (b7 P) (node (b7 P) (node (b564 P) nil nil) nil) (node (b436 P) nil nil)) (node (b244 P) (node (b372 P) (node (b7 P) nil nil) nil) (node (b7 P) nil nil))))) (node (b28 P) (node (b44 P) (node (b76 P) (node (b140 P) (node (b268 P) (node (b524 P) nil nil) nil) (node (b7 P) (node (b652 P) nil nil) nil)) (node (b204 P) (node (b332 P) (node (b588 P) nil nil) nil) (node (b7 P) nil nil))) (node (b108 P) (node (b172 P) (node (b300 P) (node (b556 P) nil nil) nil) (node (b428 P) nil nil)) (node (b23 P) (node (b7 P) (node (b620 P) nil nil) nil) (node (b492 P) nil nil)))) (node (b7 P) (node (b7 P) (node (b156 P) (node (b7 P) (node (b540 P) nil nil) nil) (node (b412 P) nil nil)) (node (b220 P) (node (b8 P) (node (b604 P) nil nil) nil) (node (b476 P) nil nil))) (node (b7 P) (node (b8 P) (node (b316 P) (node (b7 P) nil nil) nil) (node (b444 P) nil nil)) (node (b7 P) (node (b380 P) (node (b8 P) nil nil) nil) (node (b508 P) nil nil))))))) (node (b6 P) (node (b10 P) (node (b7 P) (node (b34 P) (node (b8 P) (node (b130 P) (node (b258 P) (node (b514 P) nil nil) nil) (node (b386 P) (node (b7 P) nil nil) nil)) (node (b7 P) (node (b7 P) (node (b578 P) nil nil) nil) (node (b450 P) nil nil))) (node (b23 P) (node (b7 P) (node (b290 P) (node (b546 P) nil nil) nil) (node (b8 P) nil nil)) (node (b226 P) (node (b7 P) (node (b7 P) nil nil) nil) (node (b7 P) nil nil)))) (node (b7 P) (node (b82 P) (node (b8 P) (node (b274 P) (node (b7 P) nil nil) nil) (node (b402 P) nil nil)) (node (b7 P) (node (b338 P) (node (b8 P) nil nil) nil) (node (b466 P) nil nil))) (node (b114 P) (node (b178 P) (node (b8 P) (node (b562 P) nil nil) nil) (node (b434 P) nil nil)) (node (b7 P) (node (b370 P) (node (b626 P) nil nil) nil) (node (b498 P) nil nil))))) (node (b26 P) (node (b42 P) (node (b74 P) (node (b138 P) (node (b7 P) (node (b7 P) nil nil) nil) (node (b394 P) (node (b650 P) nil nil) nil)) (node (b202 P) (node (b330 P) (node (b7 P) nil nil) nil) (node (b458 P) nil nil))) (node (b106 P) (node (b170 P) (node (b7 P) (node (b554 P) nil nil) nil) (node (b426 P) nil nil)) (node (b234 P) (node (b8 P) (node (b618 P) nil nil) nil) (node (b490 P) nil nil)))) (node (b23 P) (node (b90 P) (node (b154 P) (node (b282 P) (node (b7 P) nil nil) nil) (node (b7 P) nil nil)) (node (b218 P) (node (b346 P) (node (b602 P) nil nil) nil) (node (b474 P) nil nil))) (node (b122 P) (node (b186 P) (node (b314 P) (node (b570 P) nil nil) nil) (node (b442 P) nil nil)) (node (b8 P) (node (b7 P) (node (b634 P) nil nil) nil) (node (b506 P) nil nil)))))) (node (b14 P) (node (b7 P) (node (b38 P) (node (b70 P) (node (b7 P) (node (b262 P) (node (b518 P) nil nil) nil) (node (b8 P) (node (b646 P) nil nil) nil)) (node (b198 P) (node (b7 P) (node (b7 P) nil nil) nil) (node (b8 P) nil nil))) (node (b102 P) (node (b7 P) (node (b7 P) (node (b550 P) nil nil) nil) (node (b422 P) nil nil)) (node (b230 P) (node (b358 P) (node (b7 P) nil nil) nil) (node (b7 P) nil nil)))) (node (b54 P) (node (b23 P) (node (b150 P) (node (b278 P) (node (b534 P) nil nil) nil) (node (b7 P) nil nil)) (node (b7 P) (node (b342 P) (node (b598 P) nil nil) nil) (node (b7 P) nil nil))) (node (b8 P) (node (b182 P) (node (b310 P) (node (b8 P) nil nil) nil) (node (b438 P) nil nil)) (node (b246 P) (node (b374 P) (node (b630 P) nil nil) nil) (node (b7 P) nil nil))))) (node (b8 P) (node (b46 P) (node (b78 P) (node (b142 P) (node (b7 P) (node (b526 P) nil nil) nil) (node (b398 P) (node (b654 P) nil nil) nil)) (node (b206 P) (node (b8 P) (node (b590 P) nil nil) nil) (node (b462 P) nil nil))) (node (b23 P) (node (b8 P) (node (b302 P) (node (b7 P) nil nil) nil) (node (b430 P) nil nil)) (node (b7 P) (node (b366 P) (node (b8 P) nil nil) nil) (node (b8 P) nil nil)))) (node (b62 P) (node (b94 P) (node (b158 P) (node (b286 P) (node (b542 P) nil nil) nil) (node (b414 P) nil nil)) (node (b8 P) (node (b7 P) (node (b606 P) nil nil) nil) (node (b478 P) nil nil))) (node (b126 P) (node (b7 P) (node (b318 P) (node (b574 P) nil nil) nil) (node (b7 P) nil nil)) (node (b254 P) (node (b7 P) (node (b7 P) nil nil) nil) (node (b7 P) nil nil)))))))))
noncomputable def tq41 (P : Params) : BT := (node (b7 P) (node (b255 P) (node (b8 P) nil nil) (node (b767 P) nil nil)) (node (b8 P) (node (b639 P) nil nil) nil))
noncomputable def tq42 (P : Params) : BT := (node (b7 P) (node (b7 P) (node (b543 P) nil nil) (node (b7 P) nil nil)) (node (b415 P) (node (b8 P) nil nil) nil))
noncomputable def tq43 (P : Params) : BT := (node (b95 P) (tq42 P) (node (b223 P) (node (b351 P) (node (b7 P) nil nil) nil) (node (b7 P) (node (b7 P) nil nil) nil)))
noncomputable def tq44 (P : Params) : BT := (node (b143 P) (node (b8 P) (node (b527 P) nil nil) (node (b8 P) nil nil)) (node (b7 P) (node (b655 P) nil nil) nil))
noncomputable def tq45 (P : Params) : BT := (node (b175 P) (node (b303 P) (node (b8 P) nil nil) (node (b815 P) nil nil)) (node (b431 P) (node (b7 P) nil nil) nil))
noncomputable def tq46 (P : Params) : BT := (node (b47 P) (node (b79 P) (tq44 P) (node (b7 P) (node (b335 P) (node (b591 P) nil nil) nil) (node (b7 P) (node (b719 P) nil nil) nil))) (node (b111 P) (tq45 P) (node (b239 P) (node (b367 P) (node (b623 P) nil nil) nil) (node (b495 P) (node (b751 P) nil nil) nil))))
noncomputable def tq47 (P : Params) : BT := (node (b135 P) (node (b7 P) (node (b6 P) nil nil) (node (b7 P) nil nil)) (node (b391 P) (node (b647 P) nil nil) nil))
noncomputable def tq48 (P : Params) : BT := (node (b8 P) (node (b295 P) (node (b7 P) nil nil) (node (b807 P) nil nil)) (node (b423 P) (node (b6 P) nil nil) nil))
noncomputable def tq49 (P : Params) : BT := (node (b151 P) (node (b279 P) (node (b535 P) nil nil) (node (b791 P) nil nil)) (node (b407 P) (node (b7 P) nil nil) nil))
noncomputable def tq50 (P : Params) : BT := (node (b7 P) (node (b311 P) (node (b567 P) nil nil) (node (b823 P) nil nil)) (node (b23 P) (node (b8 P) nil nil) nil))
noncomputable def tq51 (P : Params) : BT := (node (b23 P) (node (b7 P) (node (b71 P) (tq47 P) (node (b199 P) (node (b8 P) (node (b583 P) nil nil) nil) (node (b455 P) (node (b7 P) nil nil) nil))) (node (b103 P) (tq48 P) (node (b231 P) (node (b359 P) (node (b8 P) nil nil) nil) (node (b23 P) (node (b7 P) nil nil) nil)))) (node (b55 P) (node (b87 P) (tq49 P) (node (b23 P) (node (b7 P) (node (b599 P) nil nil) nil) (node (b471 P) (node (b727 P) nil nil) nil))) (node (b119 P) (tq50 P) (node (b247 P) (node (b7 P) (node (b7 P) nil nil) nil) (node (b7 P) (node (b759 P) nil nil) nil)))))
noncomputable def tq52 (P : Params) : BT := (node (b7 P) (node (b7 P) (node (b515 P) nil nil) (node (b7 P) nil nil)) (node (b387 P) (node (b8 P) nil nil) nil))
noncomputable def tq53 (P : Params) : BT := (node (b163 P) (node (b7 P) (node (b6 P) nil nil) (node (b7 P) nil nil)) (node (b419 P) (node (b675 P) nil nil) nil))
noncomputable def tq54 (P : Params) : BT := (node (b99 P) (tq53 P) (node (b227 P) (node (b8 P) (node (b611 P) nil nil) nil) (node (b483 P) (node (b64 P) nil nil) nil)))
noncomputable def tq55 (P : Params) : BT := (node (b147 P) (node (b275 P) (node (b8 P) nil nil) (node (b787 P) nil nil)) (node (b7 P) (node (b7 P) nil nil) nil))
noncomputable def tq56 (P : Params) : BT := (node (b179 P) (node (b307 P) (node (b563 P) nil nil) (node (b819 P) nil nil)) (node (b435 P) (node (b691 P) nil nil) nil))
noncomputable def tq57 (P : Params) : BT := (node (b8 P) (node (b83 P) (tq55 P) (node (b211 P) (node (b339 P) (node (b595 P) nil nil) nil) (node (b7 P) (node (b723 P) nil nil) nil))) (node (b115 P) (tq56 P) (node (b8 P) (node (b7 P) (node (b627 P) nil nil) nil) (node (b499 P) (node (b8 P) nil nil) nil))))
noncomputable def tq58 (P : Params) : BT := (node (b139 P) (node (b267 P) (node (b7 P) nil nil) (node (b779 P) nil nil)) (node (b395 P) (node (b651 P) nil nil) nil))
noncomputable def tq59 (P : Params) : BT := (node (b171 P) (node (b8 P) (node (b555 P) nil nil) (node (b8 P) nil nil)) (node (b7 P) (node (b7 P) nil nil) nil))
noncomputable def tq60 (P : Params) : BT := (node (b7 P) (node (b283 P) (node (b8 P) nil nil) (node (b795 P) nil nil)) (node (b8 P) (node (b667 P) nil nil) nil))
noncomputable def tq61 (P : Params) : BT := (node (b123 P) (node (b7 P) (node (b7 P) (node (b571 P) nil nil) (node (b827 P) nil nil)) (node (b443 P) (node (b699 P) nil nil) nil)) (node (b251 P) (node (b379 P) (node (b7 P) nil nil) nil) (node (b507 P) (node (b763 P) nil nil) nil)))
noncomputable def tq62 (P : Params) : BT := (node (b27 P) (node (b43 P) (node (b7 P) (tq58 P) (node (b203 P) (node (b331 P) (node (b8 P) nil nil) nil) (node (b459 P) (node (b7 P) nil nil) nil))) (node (b107 P) (tq59 P) (node (b7 P) (node (b363 P) (node (b619 P) nil nil) nil) (node (b491 P) (node (b7 P) nil nil) nil)))) (node (b59 P) (node (b91 P) (tq60 P) (node (b219 P) (node (b7 P) (node (b7 P) nil nil) nil) (node (b475 P) (node (b731 P) nil nil) nil))) (tq61 P)))
noncomputable def tq63 (P : Params) : BT := (node (b129 P) (node (b8 P) (node (b7 P) nil nil) (node (b23 P) nil nil)) (node (b7 P) (node (b641 P) nil nil) nil))
noncomputable def tq64 (P : Params) : BT := (node (b161 P) (node (b289 P) (node (b545 P) nil nil) (node (b801 P) nil nil)) (node (b7 P) (node (b7 P) nil nil) nil))
noncomputable def tq65 (P : Params) : BT := (node (b85 P) (tq64 P) (node (b225 P) (node (b353 P) (node (b609 P) nil nil) nil) (node (b481 P) (node (b737 P) nil nil) nil)))
noncomputable def tq66 (P : Params) : BT := (node (b7 P) (node (b7 P) (node (b6 P) nil nil) (node (b7 P) nil nil)) (node (b401 P) (node (b23 P) nil nil) nil))
noncomputable def tq67 (P : Params) : BT := (node (b177 P) (node (b7 P) (node (b7 P) nil nil) (node (b7 P) nil nil)) (node (b433x4 P) (node (b689 P) nil nil) nil))
noncomputable def tq68 (P : Params) : BT := (node (b49 P) (node (b81 P) (tq66 P) (node (b209 P) (node (b337 P) (node (b7 P) nil nil) nil) (node (b465 P) (node (b8 P) nil nil) nil))) (node (b113 P) (tq67 P) (node (b241 P) (node (b8 P) (node (b625 P) nil nil) nil) (node (b497 P) (node (b753 P) nil nil) nil))))
noncomputable def tq69 (P : Params) : BT := (node (b137 P) (node (b265 P) (node (b8 P) nil nil) (node (b777 P) nil nil)) (node (b393 P) (node (b649 P) nil nil) nil))
noncomputable def tq70 (P : Params) : BT := (node (b7 P) (node (b297 P) (node (b553 P) nil nil) (node (b809 P) nil nil)) (node (b8 P) (node (b8 P) nil nil) nil))
noncomputable def tq71 (P : Params) : BT := (node (b23 P) (node (b281 P) (node (b6 P) nil nil) (node (b793 P) nil nil)) (node (b409 P) (node (b665 P) nil nil) nil))
noncomputable def tq72 (P : Params) : BT := (node (b121 P) (node (b185 P) (node (b23 P) (node (b569 P) nil nil) (node (b825 P) nil nil)) (node (b7 P) (node (b7 P) nil nil) nil)) (node (b7 P) (node (b377 P) (node (b633 P) nil nil) nil) (node (b505 P) (node (b761 P) nil nil) nil)))
noncomputable def tq73 (P : Params) : BT := (node (b7 P) (node (b41 P) (node (b8 P) (tq69 P) (node (b201 P) (node (b7 P) (node (b585 P) nil nil) nil) (node (b457 P) (node (b713 P) nil nil) nil))) (node (b105 P) (tq70 P) (node (b233 P) (node (b7 P) (node (b7 P) nil nil) nil) (node (b7 P) (node (b745 P) nil nil) nil)))) (node (b57 P) (node (b8 P) (tq71 P) (node (b7 P) (node (b345 P) (node (b8 P) nil nil) nil) (node (b473 P) (node (b729 P) nil nil) nil))) (tq72 P)))
noncomputable def tq74 (P : Params) : BT := (node (b133 P) (node (b261 P) (node (b517 P) nil nil) (node (b773 P) nil nil)) (node (b7 P) (node (b7 P) nil nil) nil))
noncomputable def tq75 (P : Params) : BT := (node (b165 P) (node (b293 P) (node (b8 P) nil nil) (node (b805 P) nil nil)) (node (b421 P) (node (b677 P) nil nil) nil))
noncomputable def tq76 (P : Params) : BT := (node (b149 P) (node (b277 P) (node (b533 P) nil nil) (node (b7 P) nil nil)) (node (b405 P) (node (b661 P) nil nil) nil))
noncomputable def tq77 (P : Params) : BT := (node (b8 P) (node (b309 P) (node (b7 P) nil nil) (node (b821 P) nil nil)) (node (b437 P) (node (b693 P) nil nil) nil))
noncomputable def tq78 (P : Params) : BT := (node (b21 P) (node (b8 P) (node (b69 P) (tq74 P) (node (b197 P) (node (b325 P) (node (b581 P) nil nil) nil) (node (b7 P) (node (b8 P) nil nil) nil))) (node (b8 P) (tq75 P) (node (b229 P) (node (b7 P) (node (b613 P) nil nil) nil) (node (b485 P) (node (b8 P) nil nil) nil)))) (node (b7 P) (node (b85 P) (tq76 P) (node (b213 P) (node (b8 P) (node (b597 P) nil nil) nil) (node (b469 P) (node (b725 P) nil nil) nil))) (node (b7 P) (tq77 P) (node (b7 P) (node (b373 P) (node (b8 P) nil nil) nil) (node (b8 P) (node (b7 P) nil nil) nil)))))
noncomputable def tq79 (P : Params) : BT := (node (b141 P) (node (b269 P) (node (b525 P) nil nil) (node (b781 P) nil nil)) (node (b8 P) (node (b653 P) nil nil) nil))
noncomputable def tq80 (P : Params) : BT := (node (b7 P) (node (b7 P) (node (b6 P) nil nil) (node (b7 P) nil nil)) (node (b429 P) (node (b685 P) nil nil) nil))
noncomputable def tq81 (P : Params) : BT := (node (b45 P) (node (b77 P) (tq79 P) (node (b205 P) (node (b7 P) (node (b7 P) nil nil) nil) (node (b8 P) (node (b717 P) nil nil) nil))) (node (b7 P) (tq80 P) (node (b237 P) (node (b365 P) (node (b7 P) nil nil) nil) (node (b7 P) (node (b749 P) nil nil) nil))))
noncomputable def tq82 (P : Params) : BT := (node (b157 P) (node (b8 P) (node (b7 P) nil nil) (node (b8 P) nil nil)) (node (b7 P) (node (b669 P) nil nil) nil))
noncomputable def tq83 (P : Params) : BT := (node (b93 P) (tq82 P) (node (b7 P) (node (b349 P) (node (b605 P) nil nil) nil) (node (b477 P) (node (b23 P) nil nil) nil)))
noncomputable def tq84 (P : Params) : BT := (node (b253 P) (node (b381 P) (node (b637 P) nil nil) nil) (node (b6 P) (node (b765 P) nil nil) nil))
noncomputable def tq85 (P : Params) : BT := (node (b128 P) (node (b7 P) (node (b7 P) nil nil) (node (b7 P) nil nil)) (node (b384 P) (node (b640 P) nil nil) nil))
noncomputable def tq86 (P : Params) : BT := (node (b8 P) (node (b288 P) (node (b544 P) nil nil) (node (b800 P) nil nil)) (node (b416 P) (node (b672 P) nil nil) nil))
noncomputable def tq87 (P : Params) : BT := (node (b96 P) (tq86 P) (node (b7 P) (node (b352 P) (node (b8 P) nil nil) nil) (node (b8 P) (node (b736 P) nil nil) nil)))
noncomputable def tq88 (P : Params) : BT := (node (b144 P) (node (b272 P) (node (b528 P) nil nil) (node (b784 P) nil nil)) (node (b400 P) (node (b7 P) nil nil) nil))
noncomputable def tq89 (P : Params) : BT := (node (b7 P) (node (b304 P) (node (b560 P) nil nil) (node (b816 P) nil nil)) (node (b432 P) (node (b8 P) nil nil) nil))
noncomputable def tq90 (P : Params) : BT := (node (b48 P) (node (b80 P) (tq88 P) (node (b8 P) (node (b7 P) (node (b592 P) nil nil) nil) (node (b464 P) (node (b7 P) nil nil) nil))) (node (b7 P) (tq89 P) (node (b240 P) (node (b7 P) (node (b7 P) nil nil) nil) (node (b7 P) (node (b752 P) nil nil) nil))))
noncomputable def tq91 (P : Params) : BT := (node (b136 P) (node (b8 P) (node (b7 P) nil nil) (node (b8 P) nil nil)) (node (b7 P) (node (b648 P) nil nil) nil))
noncomputable def tq92 (P : Params) : BT := (node (b168 P) (node (b296 P) (node (b552 P) nil nil) (node (b808 P) nil nil)) (node (b7 P) (node (b7 P) nil nil) nil))
noncomputable def tq93 (P : Params) : BT := (node (b7 P) (node (b280 P) (node (b536 P) nil nil) (node (b7 P) nil nil)) (node (b408 P) (node (b8 P) nil nil) nil))
noncomputable def tq94 (P : Params) : BT := (node (b184 P) (node (b7 P) (node (b7 P) nil nil) (node (b824 P) nil nil)) (node (b440 P) (node (b696 P) nil nil) nil))
noncomputable def tq95 (P : Params) : BT := (node (b24 P) (node (b40 P) (node (b7 P) (tq91 P) (node (b200 P) (node (b328 P) (node (b584 P) nil nil) nil) (node (b7 P) (node (b712 P) nil nil) nil))) (node (b7 P) (tq92 P) (node (b232 P) (node (b360 P) (node (b616 P) nil nil) nil) (node (b488 P) (node (b744 P) nil nil) nil)))) (node (b56 P) (node (b7 P) (tq93 P) (node (b216 P) (node (b344 P) (node (b7 P) nil nil) nil) (node (b472 P) (node (b728 P) nil nil) nil))) (node (b7 P) (tq94 P) (node (b248 P) (node (b8 P) (node (b632 P) nil nil) nil) (node (b504 P) (node (b760 P) nil nil) nil)))))
noncomputable def tq96 (P : Params) : BT := (node (b8 P) (node (b260 P) (node (b516 P) nil nil) (node (b772 P) nil nil)) (node (b388 P) (node (b644 P) nil nil) nil))
noncomputable def tq97 (P : Params) : BT := (node (b164 P) (node (b8 P) (node (b7 P) nil nil) (node (b8 P) nil nil)) (node (b7 P) (node (b676 P) nil nil) nil))
noncomputable def tq98 (P : Params) : BT := (node (b7 P) (tq97 P) (node (b228 P) (node (b356 P) (node (b612 P) nil nil) nil) (node (b484 P) (node (b7 P) nil nil) nil)))
noncomputable def tq99 (P : Params) : BT := (node (b7 P) (node (b276 P) (node (b532 P) nil nil) (node (b788 P) nil nil)) (node (b8 P) (node (b660 P) nil nil) nil))
noncomputable def tq100 (P : Params) : BT := (node (b7 P) (node (b7 P) (node (b564 P) nil nil) (node (b820 P) nil nil)) (node (b436 P) (node (b692 P) nil nil) nil))
noncomputable def tq101 (P : Params) : BT := (node (b52 P) (node (b84 P) (tq99 P) (node (b212 P) (node (b7 P) (node (b7 P) nil nil) nil) (node (b8 P) (node (b724 P) nil nil) nil))) (node (b64 P) (tq100 P) (node (b244 P) (node (b372 P) (node (b7 P) nil nil) nil) (node (b7 P) (node (b756 P) nil nil) nil))))
noncomputable def tq102 (P : Params) : BT := (node (b140 P) (node (b268 P) (node (b524 P) nil nil) (node (b780 P) nil nil)) (node (b7 P) (node (b652 P) nil nil) nil))
noncomputable def tq103 (P : Params) : BT := (node (b172 P) (node (b300 P) (node (b556 P) nil nil) (node (b812 P) nil nil)) (node (b428 P) (node (b684 P) nil nil) nil))
noncomputable def tq104 (P : Params) : BT := (node (b156 P) (node (b7 P) (node (b540 P) nil nil) (node (b7 P) nil nil)) (node (b412 P) (node (b668 P) nil nil) nil))
noncomputable def tq105 (P : Params) : BT := (node (b7 P) (node (b8 P) (node (b316 P) (node (b7 P) nil nil) (node (b828 P) nil nil)) (node (b444 P) (node (b700 P) nil nil) nil)) (node (b7 P) (node (b380 P) (node (b8 P) nil nil) nil) (node (b508 P) (node (b764 P) nil nil) nil)))
noncomputable def tq106 (P : Params) : BT := (node (b28 P) (node (b44 P) (node (b76 P) (tq102 P) (node (b204 P) (node (b332 P) (node (b588 P) nil nil) nil) (node (b7 P) (node (b8 P) nil nil) nil))) (node (b108 P) (tq103 P) (node (b23 P) (node (b7 P) (node (b620 P) nil nil) nil) (node (b492 P) (node (b8 P) nil nil) nil)))) (node (b7 P) (node (b7 P) (tq104 P) (node (b220 P) (node (b8 P) (node (b604 P) nil nil) nil) (node (b476 P) (node (b7 P) nil nil) nil))) (tq105 P)))
noncomputable def tq107 (P : Params) : BT := (node (b130 P) (node (b258 P) (node (b514 P) nil nil) (node (b770 P) nil nil)) (node (b386 P) (node (b7 P) nil nil) nil))
noncomputable def tq108 (P : Params) : BT := (node (b7 P) (node (b290 P) (node (b546 P) nil nil) (node (b802 P) nil nil)) (node (b8 P) (node (b674 P) nil nil) nil))
noncomputable def tq109 (P : Params) : BT := (node (b23 P) (tq108 P) (node (b226 P) (node (b7 P) (node (b7 P) nil nil) nil) (node (b7 P) (node (b738 P) nil nil) nil)))
noncomputable def tq110 (P : Params) : BT := (node (b8 P) (node (b274 P) (node (b7 P) nil nil) (node (b786 P) nil nil)) (node (b402 P) (node (b658 P) nil nil) nil))
noncomputable def tq111 (P : Params) : BT := (node (b178 P) (node (b8 P) (node (b562 P) nil nil) (node (b8 P) nil nil)) (node (b434 P) (node (b7 P) nil nil) nil))
noncomputable def tq112 (P : Params) : BT := (node (b7 P) (node (b82 P) (tq110 P) (node (b7 P) (node (b338 P) (node (b8 P) nil nil) nil) (node (b466 P) (node (b722 P) nil nil) nil))) (node (b114 P) (tq111 P) (node (b7 P) (node (b370 P) (node (b626 P) nil nil) nil) (node (b498 P) (node (b7 P) nil nil) nil))))
noncomputable def tq113 (P : Params) : BT := (node (b138 P) (node (b7 P) (node (b7 P) nil nil) (node (b7 P) nil nil)) (node (b394 P) (node (b650 P) nil nil) nil))
noncomputable def tq114 (P : Params) : BT := (node (b170 P) (node (b7 P) (node (b554 P) nil nil) (node (b7 P) nil nil)) (node (b426 P) (node (b682 P) nil nil) nil))
noncomputable def tq115 (P : Params) : BT := (node (b154 P) (node (b282 P) (node (b7 P) nil nil) (node (b794 P) nil nil)) (node (b7 P) (node (b7 P) nil nil) nil))
noncomputable def tq116 (P : Params) : BT := (node (b122 P) (node (b186 P) (node (b314 P) (node (b570 P) nil nil) (node (b826 P) nil nil)) (node (b442 P) (node (b698 P) nil nil) nil)) (node (b8 P) (node (b7 P) (node (b634 P) nil nil) nil) (node (b506 P) (node (b762 P) nil nil) nil)))
noncomputable def tq117 (P : Params) : BT := (node (b26 P) (node (b42 P) (node (b74 P) (tq113 P) (node (b202 P) (node (b330 P) (node (b7 P) nil nil) nil) (node (b458 P) (node (b714 P) nil nil) nil))) (node (b106 P) (tq114 P) (node (b234 P) (node (b8 P) (node (b618 P) nil nil) nil) (node (b490 P) (node (b746 P) nil nil) nil)))) (node (b23 P) (node (b90 P) (tq115 P) (node (b218 P) (node (b346 P) (node (b602 P) nil nil) nil) (node (b474 P) (node (b730 P) nil nil) nil))) (tq116 P)))
noncomputable def tq118 (P : Params) : BT := (node (b7 P) (node (b262 P) (node (b518 P) nil nil) (node (b774 P) nil nil)) (node (b8 P) (node (b646 P) nil nil) nil))
noncomputable def tq119 (P : Params) : BT := (node (b7 P) (node (b7 P) (node (b550 P) nil nil) (node (b7 P) nil nil)) (node (b422 P) (node (b678 P) nil nil) nil))
noncomputable def tq120 (P : Params) : BT := (node (b150 P) (node (b278 P) (node (b534 P) nil nil) (node (b8 P) nil nil)) (node (b7 P) (node (b662 P) nil nil) nil))
noncomputable def tq121 (P : Params) : BT := (node (b182 P) (node (b310 P) (node (b8 P) nil nil) (node (b822 P) nil nil)) (node (b438 P) (node (b7 P) nil nil) nil))
noncomputable def tq122 (P : Params) : BT := (node (b7 P) (node (b38 P) (node (b70 P) (tq118 P) (node (b198 P) (node (b7 P) (node (b7 P) nil nil) nil) (node (b8 P) (node (b710 P) nil nil) nil))) (node (b102 P) (tq119 P) (node (b230 P) (node (b358 P) (node (b7 P) nil nil) nil) (node (b7 P) (node (b742 P) nil nil) nil)))) (node (b54 P) (node (b23 P) (tq120 P) (node (b7 P) (node (b342 P) (node (b598 P) nil nil) nil) (node (b7 P) (node (b726 P) nil nil) nil))) (node (b8 P) (tq121 P) (node (b246 P) (node (b374 P) (node (b630 P) nil nil) nil) (node (b7 P) (node (b758 P) nil nil) nil)))))
noncomputable def tq123 (P : Params) : BT := (node (b142 P) (node (b7 P) (node (b526 P) nil nil) (node (b7 P) nil nil)) (node (b398 P) (node (b654 P) nil nil) nil))
noncomputable def tq124 (P : Params) : BT := (node (b8 P) (node (b302 P) (node (b7 P) nil nil) (node (b814 P) nil nil)) (node (b430 P) (node (b686 P) nil nil) nil))
noncomputable def tq125 (P : Params) : BT := (node (b46 P) (node (b78 P) (tq123 P) (node (b206 P) (node (b8 P) (node (b590 P) nil nil) nil) (node (b462 P) (node (b718 P) nil nil) nil))) (node (b23 P) (tq124 P) (node (b7 P) (node (b366 P) (node (b8 P) nil nil) nil) (node (b8 P) (node (b7 P) nil nil) nil))))
noncomputable def tq126 (P : Params) : BT := (node (b158 P) (node (b286 P) (node (b542 P) nil nil) (node (b798 P) nil nil)) (node (b414 P) (node (b7 P) nil nil) nil))
noncomputable def tq127 (P : Params) : BT := (node (b94 P) (tq126 P) (node (b8 P) (node (b7 P) (node (b606 P) nil nil) nil) (node (b478 P) (node (b734 P) nil nil) nil)))
noncomputable def tq128 (P : Params) : BT := (node (b254 P) (node (b7 P) (node (b7 P) nil nil) nil) (node (b7 P) (node (b766 P) nil nil) nil))
noncomputable def tr6 (P : Params) : BT := (node (b0 P) (node (b1 P) (node (b3x6 P) (node (b7 P) (node (b7 P) (node (b31 P) (node (b63 P) (tq41 P) (node (b191 P) (node (b7 P) (node (b7 P) nil nil) nil) (node (b8 P) (node (b703 P) nil nil) nil))) (tq43 P)) (tq46 P)) (tq51 P)) (node (b7 P) (node (b19 P) (node (b35 P) (node (b67 P) (tq52 P) (node (b8 P) (node (b323 P) (node (b7 P) nil nil) nil) (node (b451 P) (node (b707 P) nil nil) nil))) (tq54 P)) (tq57 P)) (tq62 P))) (node (b5 P) (node (b9 P) (node (b17 P) (node (b33 P) (node (b7 P) (tq63 P) (node (b193 P) (node (b321 P) (node (b577 P) nil nil) nil) (node (b7 P) (node (b705 P) nil nil) nil))) (tq65 P)) (tq68 P)) (tq73 P)) (node (b13 P) (tq78 P) (node (b7 P) (tq81 P) (node (b61 P) (tq83 P) (node (b8 P) (node (b189 P) (node (b317 P) (node (b8 P) nil nil) nil) (node (b445 P) (node (b7 P) nil nil) nil)) (tq84 P))))))) (node (b2x1 P) (node (b4 P) (node (b8 P) (node (b8 P) (node (b7 P) (node (b64 P) (tq85 P) (node (b192 P) (node (b8 P) (node (b576 P) nil nil) nil) (node (b448 P) (node (b7 P) nil nil) nil))) (tq87 P)) (tq90 P)) (tq95 P)) (node (b12x6 P) (node (b20 P) (node (b7 P) (node (b7 P) (tq96 P) (node (b196 P) (node (b324 P) (node (b8 P) nil nil) nil) (node (b452 P) (node (b7 P) nil nil) nil))) (tq98 P)) (tq101 P)) (tq106 P))) (node (b6 P) (node (b10 P) (node (b7 P) (node (b34 P) (node (b8 P) (tq107 P) (node (b7 P) (node (b7 P) (node (b578 P) nil nil) nil) (node (b450 P) (node (b706 P) nil nil) nil))) (tq109 P)) (tq112 P)) (tq117 P)) (node (b14 P) (tq122 P) (node (b8 P) (tq125 P) (node (b62 P) (tq127 P) (node (b126 P) (node (b7 P) (node (b318 P) (node (b574 P) nil nil) nil) (node (b7 P) (node (b8 P) nil nil) nil)) (tq128 P))))))))
noncomputable def tq129 (P : Params) : BT := (node (b63 P) (tq41 P) (node (b191 P) (node (b7 P) (node (b7 P) nil nil) (node (b8 P) nil nil)) (node (b8 P) (node (b703 P) nil nil) nil)))
noncomputable def tq130 (P : Params) : BT := (node (b67 P) (tq52 P) (node (b8 P) (node (b323 P) (node (b7 P) nil nil) (node (b835 P) nil nil)) (node (b451 P) (node (b707 P) nil nil) nil)))
noncomputable def tq131 (P : Params) : BT := (node (b7 P) (tq63 P) (node (b193 P) (node (b321 P) (node (b577 P) nil nil) (node (b7 P) nil nil)) (node (b7 P) (node (b705 P) nil nil) nil)))
noncomputable def tq132 (P : Params) : BT := (node (b8 P) (node (b189 P) (node (b317 P) (node (b8 P) nil nil) (node (b829 P) nil nil)) (node (b445 P) (node (b7 P) nil nil) nil)) (tq84 P))
noncomputable def tq133 (P : Params) : BT := (node (b64 P) (tq85 P) (node (b192 P) (node (b8 P) (node (b576 P) nil nil) (node (b832 P) nil nil)) (node (b448 P) (node (b7 P) nil nil) nil)))
noncomputable def tq134 (P : Params) : BT := (node (b7 P) (tq96 P) (node (b196 P) (node (b324 P) (node (b8 P) nil nil) (node (b836 P) nil nil)) (node (b452 P) (node (b7 P) nil nil) nil)))
noncomputable def tq135 (P : Params) : BT := (node (b8 P) (tq107 P) (node (b7 P) (node (b7 P) (node (b578 P) nil nil) (node (b834 P) nil nil)) (node (b450 P) (node (b706 P) nil nil) nil)))
noncomputable def tq136 (P : Params) : BT := (node (b126 P) (node (b7 P) (node (b318 P) (node (b574 P) nil nil) (node (b7 P) nil nil)) (node (b7 P) (node (b8 P) nil nil) nil)) (tq128 P))
noncomputable def tr7 (P : Params) : BT := (node (b0 P) (node (b1 P) (node (b3x7 P) (node (b7 P) (node (b7 P) (node (b31 P) (tq129 P) (tq43 P)) (tq46 P)) (tq51 P)) (node (b7 P) (node (b19 P) (node (b35 P) (tq130 P) (tq54 P)) (tq57 P)) (tq62 P))) (node (b5 P) (node (b9 P) (node (b17 P) (node (b33 P) (tq131 P) (tq65 P)) (tq68 P)) (tq73 P)) (node (b13 P) (tq78 P) (node (b7 P) (tq81 P) (node (b61 P) (tq83 P) (tq132 P)))))) (node (b2x1 P) (node (b4 P) (node (b8 P) (node (b8 P) (node (b7 P) (tq133 P) (tq87 P)) (tq90 P)) (tq95 P)) (node (b12x7 P) (node (b20 P) (node (b7 P) (tq134 P) (tq98 P)) (tq101 P)) (tq106 P))) (node (b6 P) (node (b10 P) (node (b7 P) (node (b34 P) (tq135 P) (tq109 P)) (tq112 P)) (tq117 P)) (node (b14 P) (tq122 P) (node (b8 P) (tq125 P) (node (b62 P) (tq127 P) (tq136 P)))))))
noncomputable def tr8 (P : Params) : BT := (node (b0 P) (node (b1 P) (node (b3x8 P) (node (b7 P) (node (b7 P) (node (b31 P) (tq129 P) (node (b95 P) (tq42 P) (node (b223 P) (node (b351 P) (node (b7 P) nil nil) (node (b7 P) nil nil)) (node (b7 P) (node (b7 P) nil nil) nil)))) (node (b47 P) (node (b79 P) (tq44 P) (node (b7 P) (node (b335 P) (node (b591 P) nil nil) (node (b847 P) nil nil)) (node (b7 P) (node (b719 P) nil nil) nil))) (node (b111 P) (tq45 P) (node (b239 P) (node (b367 P) (node (b623 P) nil nil) (node (b879 P) nil nil)) (node (b495 P) (node (b751 P) nil nil) nil))))) (node (b23 P) (node (b7 P) (node (b71 P) (tq47 P) (node (b199 P) (node (b8 P) (node (b583 P) nil nil) (node (b839 P) nil nil)) (node (b455 P) (node (b7 P) nil nil) nil))) (node (b103 P) (tq48 P) (node (b231 P) (node (b359 P) (node (b8 P) nil nil) (node (b8 P) nil nil)) (node (b23 P) (node (b7 P) nil nil) nil)))) (node (b55 P) (node (b87 P) (tq49 P) (node (b23 P) (node (b7 P) (node (b599 P) nil nil) (node (b855 P) nil nil)) (node (b471 P) (node (b727 P) nil nil) nil))) (node (b119 P) (tq50 P) (node (b247 P) (node (b7 P) (node (b7 P) nil nil) (node (b887 P) nil nil)) (node (b7 P) (node (b759 P) nil nil) nil)))))) (node (b7 P) (node (b19 P) (node (b35 P) (tq130 P) (node (b99 P) (tq53 P) (node (b227 P) (node (b8 P) (node (b611 P) nil nil) (node (b867 P) nil nil)) (node (b483 P) (node (b64 P) nil nil) nil)))) (node (b8 P) (node (b83 P) (tq55 P) (node (b211 P) (node (b339 P) (node (b595 P) nil nil) (node (b851 P) nil nil)) (node (b7 P) (node (b723 P) nil nil) nil))) (node (b115 P) (tq56 P) (node (b8 P) (node (b7 P) (node (b627 P) nil nil) (node (b883 P) nil nil)) (node (b499 P) (node (b8 P) nil nil) nil))))) (node (b27 P) (node (b43 P) (node (b7 P) (tq58 P) (node (b203 P) (node (b331 P) (node (b8 P) nil nil) (node (b843 P) nil nil)) (node (b459 P) (node (b7 P) nil nil) nil))) (node (b107 P) (tq59 P) (node (b7 P) (node (b363 P) (node (b619 P) nil nil) (node (b875 P) nil nil)) (node (b491 P) (node (b7 P) nil nil) nil)))) (node (b59 P) (node (b91 P) (tq60 P) (node (b219 P) (node (b7 P) (node (b7 P) nil nil) (node (b7 P) nil nil)) (node (b475 P) (node (b731 P) nil nil) nil))) (tq61 P))))) (node (b5 P) (node (b9 P) (node (b17 P) (node (b33 P) (tq131 P) (node (b85 P) (tq64 P) (node (b225 P) (node (b353 P) (node (b609 P) nil nil) (node (b865 P) nil nil)) (node (b481 P) (node (b737 P) nil nil) nil)))) (node (b49 P) (node (b81 P) (tq66 P) (node (b209 P) (node (b337 P) (node (b7 P) nil nil) (node (b7 P) nil nil)) (node (b465 P) (node (b8 P) nil nil) nil))) (node (b113 P) (tq67 P) (node (b241 P) (node (b8 P) (node (b625 P) nil nil) (node (b881 P) nil nil)) (node (b497 P) (node (b753 P) nil nil) nil))))) (node (b7 P) (node (b41 P) (node (b8 P) (tq69 P) (node (b201 P) (node (b7 P) (node (b585 P) nil nil) (node (b841 P) nil nil)) (node (b457 P) (node (b713 P) nil nil) nil))) (node (b105 P) (tq70 P) (node (b233 P) (node (b7 P) (node (b7 P) nil nil) (node (b7 P) nil nil)) (node (b7 P) (node (b745 P) nil nil) nil)))) (node (b57 P) (node (b8 P) (tq71 P) (node (b7 P) (node (b345 P) (node (b8 P) nil nil) (node (b8 P) nil nil)) (node (b473 P) (node (b729 P) nil nil) nil))) (tq72 P)))) (node (b13 P) (node (b21 P) (node (b8 P) (node (b69 P) (tq74 P) (node (b197 P) (node (b325 P) (node (b581 P) nil nil) (node (b7 P) nil nil)) (node (b7 P) (node (b8 P) nil nil) nil))) (node (b8 P) (tq75 P) (node (b229 P) (node (b7 P) (node (b613 P) nil nil) (node (b869 P) nil nil)) (node (b485 P) (node (b8 P) nil nil) nil)))) (node (b7 P) (node (b85 P) (tq76 P) (node (b213 P) (node (b8 P) (node (b597 P) nil nil) (node (b853 P) nil nil)) (node (b469 P) (node (b725 P) nil nil) nil))) (node (b7 P) (tq77 P) (node (b7 P) (node (b373 P) (node (b8 P) nil nil) (node (b8 P) nil nil)) (node (b8 P) (node (b7 P) nil nil) nil))))) (node (b7 P) (node (b45 P) (node (b77 P) (tq79 P) (node (b205 P) (node (b7 P) (node (b7 P) nil nil) (node (b8 P) nil nil)) (node (b8 P) (node (b717 P) nil nil) nil))) (node (b7 P) (tq80 P) (node (b237 P) (node (b365 P) (node (b7 P) nil nil) (node (b7 P) nil nil)) (node (b7 P) (node (b749 P) nil nil) nil)))) (node (b61 P) (node (b93 P) (tq82 P) (node (b7 P) (node (b349 P) (node (b605 P) nil nil) (node (b861 P) nil nil)) (node (b477 P) (node (b23 P) nil nil) nil))) (tq132 P)))))) (node (b2x1 P) (node (b4 P) (node (b8 P) (node (b8 P) (node (b7 P) (tq133 P) (node (b96 P) (tq86 P) (node (b7 P) (node (b352 P) (node (b8 P) nil nil) (node (b8 P) nil nil)) (node (b8 P) (node (b736 P) nil nil) nil)))) (node (b48 P) (node (b80 P) (tq88 P) (node (b8 P) (node (b7 P) (node (b592 P) nil nil) (node (b848 P) nil nil)) (node (b464 P) (node (b7 P) nil nil) nil))) (node (b7 P) (tq89 P) (node (b240 P) (node (b7 P) (node (b7 P) nil nil) (node (b7 P) nil nil)) (node (b7 P) (node (b752 P) nil nil) nil))))) (node (b24 P) (node (b40 P) (node (b7 P) (tq91 P) (node (b200 P) (node (b328 P) (node (b584 P) nil nil) (node (b7 P) nil nil)) (node (b7 P) (node (b712 P) nil nil) nil))) (node (b7 P) (tq92 P) (node (b232 P) (node (b360 P) (node (b616 P) nil nil) (node (b872 P) nil nil)) (node (b488 P) (node (b744 P) nil nil) nil)))) (node (b56 P) (node (b7 P) (tq93 P) (node (b216 P) (node (b344 P) (node (b7 P) nil nil) (node (b7 P) nil nil)) (node (b472 P) (node (b728 P) nil nil) nil))) (node (b7 P) (tq94 P) (node (b248 P) (node (b8 P) (node (b632 P) nil nil) (node (b888 P) nil nil)) (node (b504 P) (node (b760 P) nil nil) nil)))))) (node (b12x8 P) (node (b20 P) (node (b7 P) (tq134 P) (node (b7 P) (tq97 P) (node (b228 P) (node (b356 P) (node (b612 P) nil nil) (node (b868 P) nil nil)) (node (b484 P) (node (b7 P) nil nil) nil)))) (node (b52 P) (node (b84 P) (tq99 P) (node (b212 P) (node (b7 P) (node (b7 P) nil nil) (node (b7 P) nil nil)) (node (b8 P) (node (b724 P) nil nil) nil))) (node (b64 P) (tq100 P) (node (b244 P) (node (b372 P) (node (b7 P) nil nil) (node (b7 P) nil nil)) (node (b7 P) (node (b756 P) nil nil) nil))))) (node (b28 P) (node (b44 P) (node (b76 P) (tq102 P) (node (b204 P) (node (b332 P) (node (b588 P) nil nil) (node (b7 P) nil nil)) (node (b7 P) (node (b8 P) nil nil) nil))) (node (b108 P) (tq103 P) (node (b23 P) (node (b7 P) (node (b620 P) nil nil) (node (b876 P) nil nil)) (node (b492 P) (node (b8 P) nil nil) nil)))) (node (b7 P) (node (b7 P) (tq104 P) (node (b220 P) (node (b8 P) (node (b604 P) nil nil) (node (b860 P) nil nil)) (node (b476 P) (node (b7 P) nil nil) nil))) (tq105 P))))) (node (b6 P) (node (b10 P) (node (b7 P) (node (b34 P) (tq135 P) (node (b23 P) (tq108 P) (node (b226 P) (node (b7 P) (node (b7 P) nil nil) (node (b7 P) nil nil)) (node (b7 P) (node (b738 P) nil nil) nil)))) (node (b7 P) (node (b82 P) (tq110 P) (node (b7 P) (node (b338 P) (node (b8 P) nil nil) (node (b8 P) nil nil)) (node (b466 P) (node (b722 P) nil nil) nil))) (node (b114 P) (tq111 P) (node (b7 P) (node (b370 P) (node (b626 P) nil nil) (node (b882 P) nil nil)) (node (b498 P) (node (b7 P) nil nil) nil))))) (node (b26 P) (node (b42 P) (node (b74 P) (tq113 P) (node (b202 P) (node (b330 P) (node (b7 P) nil nil) (node (b842 P) nil nil)) (node (b458 P) (node (b714 P) nil nil) nil))) (node (b106 P) (tq114 P) (node (b234 P) (node (b8 P) (node (b618 P) nil nil) (node (b874 P) nil nil)) (node (b490 P) (node (b746 P) nil nil) nil)))) (node (b23 P) (node (b90 P) (tq115 P) (node (b218 P) (node (b346 P) (node (b602 P) nil nil) (node (b858 P) nil nil)) (node (b474 P) (node (b730 P) nil nil) nil))) (tq116 P)))) (node (b14 P) (node (b7 P) (node (b38 P) (node (b70 P) (tq118 P) (node (b198 P) (node (b7 P) (node (b7 P) nil nil) (node (b8 P) nil nil)) (node (b8 P) (node (b710 P) nil nil) nil))) (node (b102 P) (tq119 P) (node (b230 P) (node (b358 P) (node (b7 P) nil nil) (node (b7 P) nil nil)) (node (b7 P) (node (b742 P) nil nil) nil)))) (node (b54 P) (node (b23 P) (tq120 P) (node (b7 P) (node (b342 P) (node (b598 P) nil nil) (node (b854 P) nil nil)) (node (b7 P) (node (b726 P) nil nil) nil))) (node (b8 P) (tq121 P) (node (b246 P) (node (b374 P) (node (b630 P) nil nil) (node (b886 P) nil nil)) (node (b7 P) (node (b758 P) nil nil) nil))))) (node (b8 P) (node (b46 P) (node (b78 P) (tq123 P) (node (b206 P) (node (b8 P) (node (b590 P) nil nil) (node (b846 P) nil nil)) (node (b462 P) (node (b718 P) nil nil) nil))) (node (b23 P) (tq124 P) (node (b7 P) (node (b366 P) (node (b8 P) nil nil) (node (b8 P) nil nil)) (node (b8 P) (node (b7 P) nil nil) nil)))) (node (b62 P) (node (b94 P) (tq126 P) (node (b8 P) (node (b7 P) (node (b606 P) nil nil) (node (b862 P) nil nil)) (node (b478 P) (node (b734 P) nil nil) nil))) (tq136 P)))))))

noncomputable def envL : Env := { scope := PW.main.scope, locals := mainNs, globals := mainNs, cells := [], code := .ref 13, frame := some 14 }
noncomputable def cL : Code := .body (behindTheImports PW) envL
noncomputable def SS (tr : Params → BT) (n k : Nat) (w : World) (os : OsState) : SharedT := ⟨tr w.params, n, (boot_heap w.params).life, #[], boot_drawn, k, os⟩
noncomputable def tF : List Frame := [topFrame ⟨0, 0, 0, 0⟩]
noncomputable def annL : Option Value := some (.ref 6)
noncomputable def part (a k : Nat) : List Stmt := ((behindTheImports PW).drop a).take k
noncomputable def PieceP (F : (String → Option Builtin) → Program → World → Nat → Option Value → Nat → Nat → SharedT → Thread → Option (Flow × SharedT × Code × Pos)) (T : String → Option Builtin) (X : List Stmt → Env → Sem Flow) (a k n : Nat) (t1 t2 : Params → BT) (n1 k1 n2 k2 : Nat) (p1 p2 : Pos) (w : World) : Prop :=
  (fun os : OsState => F T PW w 11 annL 1 n (SS t1 n1 k1 w os) ⟨(X (part a k) envL).wrap doneF deadEnd id id, cL, p1, tF⟩) = fun os => some (.next, SS t2 n2 k2 w os, cL, p2)

theorem pc1 (w : World) : PieceP segRunT treeTable execs 0 9 1338 tr0 tr1 15 187 152 374 ⟨0, 0, 0, 0⟩ ⟨51, 0, 52, 58⟩ w := by
  rw [PySem.W.Fast.te10110043849684766642, PySem.W.Fast.te14364793385576792824, PySem.W.Fast.te12563942051412417395]
  unfold PieceP
  kernel_rfl
theorem pc2 (w : World) : PieceP segRunT treeTable execs 9 7 1040 tr1 tr2 152 374 284 572 ⟨51, 0, 52, 58⟩ ⟨95, 0, 118, 16⟩ w := by
  rw [PySem.W.Fast.te10110043849684766642, PySem.W.Fast.te14364793385576792824, PySem.W.Fast.te12563942051412417395]
  unfold PieceP
  kernel_rfl
theorem pc3 (w : World) : PieceP segRunT treeTable execs 16 6 863 tr2 tr3 284 572 438 786 ⟨95, 0, 118, 16⟩ ⟨153, 0, 272, 53⟩ w := by
  rw [PySem.W.Fast.te10110043849684766642, PySem.W.Fast.te14364793385576792824, PySem.W.Fast.te12563942051412417395]
  unfold PieceP
  kernel_rfl
theorem pc4 (w : World) : PieceP segRunT treeTable execs 22 2 391 tr3 tr4 438 786 486 861 ⟨153, 0, 272, 53⟩ ⟨298, 0, 311, 26⟩ w := by
  rw [PySem.W.Fast.te10110043849684766642, PySem.W.Fast.te14364793385576792824, PySem.W.Fast.te12563942051412417395]
  unfold PieceP
  kernel_rfl
theorem pc5 (w : World) : PieceP segRunT treeTable execs 24 3 1637 tr4 tr5 486 861 656 1116 ⟨298, 0, 311, 26⟩ ⟨314, 0, 409, 25⟩ w := by
  rw [PySem.W.Fast.te10110043849684766642, PySem.W.Fast.te14364793385576792824, PySem.W.Fast.te12563942051412417395]
  unfold PieceP
  kernel_rfl
theorem pc6 (w : World) : PieceP segRunT treeTable execs 27 5 1338 tr5 tr6 656 1116 829 1361 ⟨314, 0, 409, 25⟩ ⟨515, 0, 515, 8⟩ w := by
  rw [PySem.W.Fast.te10110043849684766642, PySem.W.Fast.te14364793385576792824, PySem.W.Fast.te12563942051412417395]
  unfold PieceP
  kernel_rfl
theorem pc7' (w : World) (b : Bool) : PieceP segRunT treeTable execs 32 2 87 tr6 tr7 829 1361 837 1380 ⟨515, 0, 515, 8⟩ ⟨517, 0, 521, 22⟩ (w.withFollow "special-get-raises" b) := by
  rw [PySem.W.Fast.te10110043849684766642, PySem.W.Fast.te14364793385576792824, PySem.W.Fast.te12563942051412417395]
  unfold PieceP
  cases b <;> kernel_rfl
theorem pc7 : ∀ w, PieceP segRunT treeTable execs 32 2 87 tr6 tr7 829 1361 837 1380 ⟨515, 0, 515, 8⟩ ⟨517, 0, 521, 22⟩ w := byRow2 "special-get-raises" (fun w => pc7' w false) (fun w => pc7' w true)
theorem pc8 (w : World) : PieceP segRunT treeTable execs 34 8 254 tr7 tr8 837 1380 889 1461 ⟨517, 0, 521, 22⟩ ⟨567, 0, 584, 90⟩ w := by
  rw [PySem.W.Fast.te10110043849684766642, PySem.W.Fast.te14364793385576792824, PySem.W.Fast.te12563942051412417395]
  unfold PieceP
  kernel_rfl

noncomputable def H1 (P : Params) : Heap := ⟨⟨b0 P :: b1 P :: b2x1 P :: b3x8 P :: b4 P :: b5 P :: b6 P :: b7 P :: b8 P :: b9 P :: b10 P :: b7 P :: b12x8 P :: b13 P :: b14 P :: b7 P :: b8 P :: b17 P :: b7 P :: b19 P :: b20 P :: b21 P :: b7 P :: b23 P :: b24 P :: b7 P :: b26 P :: b27 P :: b28 P :: b7 P :: b8 P :: b31 P :: b7 P :: b33 P :: b34 P :: b35 P :: b7 P :: b8 P :: b38 P :: b7 P :: b40 P :: b41 P :: b42 P :: b43 P :: b44 P :: b45 P :: b46 P :: b47 P :: b48 P :: b49 P :: b7 P :: b8 P :: b52 P :: b7 P :: b54 P :: b55 P :: b56 P :: b57 P :: b23 P :: b59 P :: b7 P :: b61 P :: b62 P :: b63 P :: b64 P :: b7 P :: b8 P :: b67 P :: b7 P :: b69 P :: b70 P :: b71 P :: b7 P :: b8 P :: b74 P :: b7 P :: b76 P :: b77 P :: b78 P :: b79 P :: b80 P :: b81 P :: b82 P :: b83 P :: b84 P :: b85 P :: b23 P :: b87 P :: b7 P :: b8 P :: b90 P :: b91 P :: b7 P :: b93 P :: b94 P :: b95 P :: b96 P :: b85 P :: b23 P :: b99 P :: b7 P :: b8 P :: b102 P :: b103 P :: b7 P :: b105 P :: b106 P :: b107 P :: b108 P :: b7 P :: b23 P :: b111 P :: b7 P :: b113 P :: b114 P :: b115 P :: b64 P :: b7 P :: b8 P :: b119 P :: b7 P :: b121 P :: b122 P :: b123 P :: b7 P :: b8 P :: b126 P :: b7 P :: b128 P :: b129 P :: b130 P :: b7 P :: b8 P :: b133 P :: b7 P :: b135 P :: b136 P :: b137 P :: b138 P :: b139 P :: b140 P :: b141 P :: b142 P :: b143 P :: b144 P :: b7 P :: b8 P :: b147 P :: b7 P :: b149 P :: b150 P :: b151 P :: b7 P :: b23 P :: b154 P :: b7 P :: b156 P :: b157 P :: b158 P :: b7 P :: b8 P :: b161 P :: b7 P :: b163 P :: b164 P :: b165 P :: b7 P :: b8 P :: b168 P :: b7 P :: b170 P :: b171 P :: b172 P :: b7 P :: b8 P :: b175 P :: b7 P :: b177 P :: b178 P :: b179 P :: b7 P :: b8 P :: b182 P :: b7 P :: b184 P :: b185 P :: b186 P :: b7 P :: b8 P :: b189 P :: b7 P :: b191 P :: b192 P :: b193 P :: b7 P :: b8 P :: b196 P :: b197 P :: b198 P :: b199 P :: b200 P :: b201 P :: b202 P :: b203 P :: b204 P :: b205 P :: b206 P :: b7 P :: b8 P :: b209 P :: b7 P :: b211 P :: b212 P :: b213 P :: b7 P :: b23 P :: b216 P :: b7 P :: b218 P :: b219 P :: b220 P :: b7 P :: b8 P :: b223 P :: b7 P :: b225 P :: b226 P :: b227 P :: b228 P :: b229 P :: b230 P :: b231 P :: b232 P :: b233 P :: b234 P :: b7 P :: b23 P :: b237 P :: b7 P :: b239 P :: b240 P :: b241 P :: b7 P :: b8 P :: b244 P :: b7 P :: b246 P :: b247 P :: b248 P :: b7 P :: b8 P :: b251 P :: b7 P :: b253 P :: b254 P :: b255 P :: b7 P :: b8 P :: b258 P :: b7 P :: b260 P :: b261 P :: b262 P :: b7 P :: b8 P :: b265 P :: b7 P :: b267 P :: b268 P :: b269 P :: b7 P :: b8 P :: b272 P :: b7 P :: b274 P :: b275 P :: b276 P :: b277 P :: b278 P :: b279 P :: b280 P :: b281 P :: b282 P :: b283 P :: b7 P :: b8 P :: b286 P :: b7 P :: b288 P :: b289 P :: b290 P :: b7 P :: b8 P :: b293 P :: b7 P :: b295 P :: b296 P :: b297 P :: b7 P :: b8 P :: b300 P :: b7 P :: b302 P :: b303 P :: b304 P :: b7 P :: b8 P :: b307 P :: b7 P :: b309 P :: b310 P :: b311 P :: b7 P :: b23 P :: b314 P :: b7 P :: b316 P :: b317 P :: b318 P :: b7 P :: b8 P :: b321 P :: b7 P :: b323 P :: b324 P :: b325 P :: b7 P :: b8 P :: b328 P :: b7 P :: b330 P :: b331 P :: b332 P :: b7 P :: b8 P :: b335 P :: b7 P :: b337 P :: b338 P :: b339 P :: b7 P :: b8 P :: b342 P :: b7 P :: b344 P :: b345 P :: b346 P :: b7 P :: b8 P :: b349 P :: b7 P :: b351 P :: b352 P :: b353 P :: b7 P :: b8 P :: b356 P :: b7 P :: b358 P :: b359 P :: b360 P :: b7 P :: b8 P :: b363 P :: b7 P :: b365 P :: b366 P :: b367 P :: b7 P :: b8 P :: b370 P :: b7 P :: b372 P :: b373 P :: b374 P :: b7 P :: b8 P :: b377 P :: b7 P :: b379 P :: b380 P :: b381 P :: b7 P :: b8 P :: b384 P :: b7 P :: b386 P :: b387 P :: b388 P :: b7 P :: b8 P :: b391 P :: b7 P :: b393 P :: b394 P :: b395 P :: b7 P :: b8 P :: b398 P :: b7 P :: b400 P :: b401 P :: b402 P :: b7 P :: b8 P :: b405 P :: b7 P :: b407 P :: b408 P :: b409 P :: b7 P :: b8 P :: b412 P :: b7 P :: b414 P :: b415 P :: b416 P :: b7 P :: b8 P :: b419 P :: b7 P :: b421 P :: b422 P :: b423 P :: b7 P :: b8 P :: b426 P :: b7 P :: b428 P :: b429 P :: b430 P :: b431 P :: b432 P :: b433x4 P :: b434 P :: b435 P :: b436 P :: b437 P :: b438 P :: b23 P :: b440 P :: b7 P :: b442 P :: b443 P :: b444 P :: b445 P :: b7 P :: b8 P :: b448 P :: b7 P :: b450 P :: b451 P :: b452 P :: b7 P :: b8 P :: b455 P :: b7 P :: b457 P :: b458 P :: b459 P :: b7 P :: b8 P :: b462 P :: b7 P :: b464 P :: b465 P :: b466 P :: b7 P :: b8 P :: b469 P :: b7 P :: b471 P :: b472 P :: b473 P :: b474 P :: b475 P :: b476 P :: b477 P :: b478 P :: b7 P :: b8 P :: b481 P :: b7 P :: b483 P :: b484 P :: b485 P :: b7 P :: b23 P :: b488 P :: b7 P :: b490 P :: b491 P :: b492 P :: b7 P :: b8 P :: b495 P :: b7 P :: b497 P :: b498 P :: b499 P :: b7 P :: b8 P :: b7 P :: b7 P :: b504 P :: b505 P :: b506 P :: b507 P :: b508 P :: b6 P :: b7 P :: b8 P :: b7 P :: b7 P :: b514 P :: b515 P :: b516 P :: b517 P :: b518 P :: b6 P :: b7 P :: b8 P :: b7 P :: b7 P :: b524 P :: b525 P :: b526 P :: b527 P :: b528 P :: b6 P :: b7 P :: b8 P :: b532 P :: b533 P :: b534 P :: b535 P :: b536 P :: b6 P :: b7 P :: b8 P :: b540 P :: b7 P :: b542 P :: b543 P :: b544 P :: b545 P :: b546 P :: b6 P :: b7 P :: b8 P :: b550 P :: b7 P :: b552 P :: b553 P :: b554 P :: b555 P :: b556 P :: b6 P :: b7 P :: b8 P :: b560 P :: b7 P :: b562 P :: b563 P :: b564 P :: b7 P :: b8 P :: b567 P :: b7 P :: b569 P :: b570 P :: b571 P :: b7 P :: b8 P :: b574 P :: b7 P :: b576 P :: b577 P :: b578 P :: b7 P :: b8 P :: b581 P :: b7 P :: b583 P :: b584 P :: b585 P :: b7 P :: b8 P :: b588 P :: b7 P :: b590 P :: b591 P :: b592 P :: b7 P :: b8 P :: b595 P :: b7 P :: b597 P :: b598 P :: b599 P :: b7 P :: b8 P :: b602 P :: b7 P :: b604 P :: b605 P :: b606 P :: b7 P :: b8 P :: b609 P :: b7 P :: b611 P :: b612 P :: b613 P :: b7 P :: b8 P :: b616 P :: b7 P :: b618 P :: b619 P :: b620 P :: b7 P :: b8 P :: b623 P :: b7 P :: b625 P :: b626 P :: b627 P :: b7 P :: b8 P :: b630 P :: b7 P :: b632 P :: b633 P :: b634 P :: b7 P :: b8 P :: b637 P :: b7 P :: b639 P :: b640 P :: b641 P :: b7 P :: b8 P :: b644 P :: b7 P :: b646 P :: b647 P :: b648 P :: b649 P :: b650 P :: b651 P :: b652 P :: b653 P :: b654 P :: b655 P :: b7 P :: b23 P :: b658 P :: b7 P :: b660 P :: b661 P :: b662 P :: b7 P :: b8 P :: b665 P :: b7 P :: b667 P :: b668 P :: b669 P :: b7 P :: b8 P :: b672 P :: b7 P :: b674 P :: b675 P :: b676 P :: b677 P :: b678 P :: b6 P :: b7 P :: b8 P :: b682 P :: b7 P :: b684 P :: b685 P :: b686 P :: b7 P :: b8 P :: b689 P :: b7 P :: b691 P :: b692 P :: b693 P :: b7 P :: b8 P :: b696 P :: b7 P :: b698 P :: b699 P :: b700 P :: b7 P :: b8 P :: b703 P :: b7 P :: b705 P :: b706 P :: b707 P :: b7 P :: b8 P :: b710 P :: b7 P :: b712 P :: b713 P :: b714 P :: b7 P :: b8 P :: b717 P :: b718 P :: b719 P :: b7 P :: b8 P :: b722 P :: b723 P :: b724 P :: b725 P :: b726 P :: b727 P :: b728 P :: b729 P :: b730 P :: b731 P :: b7 P :: b23 P :: b734 P :: b7 P :: b736 P :: b737 P :: b738 P :: b64 P :: b7 P :: b8 P :: b742 P :: b7 P :: b744 P :: b745 P :: b746 P :: b7 P :: b8 P :: b749 P :: b7 P :: b751 P :: b752 P :: b753 P :: b7 P :: b8 P :: b756 P :: b7 P :: b758 P :: b759 P :: b760 P :: b761 P :: b762 P :: b763 P :: b764 P :: b765 P :: b766 P :: b767 P :: b7 P :: b23 P :: b770 P :: b7 P :: b772 P :: b773 P :: b774 P :: b7 P :: b8 P :: b777 P :: b7 P :: b779 P :: b780 P :: b781 P :: b7 P :: b8 P :: b784 P :: b7 P :: b786 P :: b787 P :: b788 P :: b7 P :: b8 P :: b791 P :: b7 P :: b793 P :: b794 P :: b795 P :: b7 P :: b8 P :: b798 P :: b7 P :: b800 P :: b801 P :: b802 P :: b7 P :: b8 P :: b805 P :: b7 P :: b807 P :: b808 P :: b809 P :: b7 P :: b8 P :: b812 P :: b7 P :: b814 P :: b815 P :: b816 P :: b7 P :: b8 P :: b819 P :: b820 P :: b821 P :: b822 P :: b823 P :: b824 P :: b825 P :: b826 P :: b827 P :: b828 P :: b829 P :: b7 P :: b8 P :: b832 P :: b7 P :: b834 P :: b835 P :: b836 P :: b7 P :: b8 P :: b839 P :: b7 P :: b841 P :: b842 P :: b843 P :: b7 P :: b8 P :: b846 P :: b847 P :: b848 P :: b7 P :: b8 P :: b851 P :: b7 P :: b853 P :: b854 P :: b855 P :: b7 P :: b8 P :: b858 P :: b7 P :: b860 P :: b861 P :: b862 P :: b7 P :: b8 P :: b865 P :: b7 P :: b867 P :: b868 P :: b869 P :: b7 P :: b8 P :: b872 P :: b7 P :: b874 P :: b875 P :: b876 P :: b7 P :: b8 P :: b879 P :: b7 P :: b881 P :: b882 P :: b883 P :: b7 P :: b8 P :: b886 P :: b887 P :: b888 P :: []⟩, (boot_heap P).life⟩
theorem pre0 (w : World) : (fun os : OsState => topGo treeTable PW w 11 annL 12 ⟨boot_heap w.params, #[], boot_drawn, boot_toks, os⟩ (topStub PW)) = fun os => some ((SS tr0 15 187 w os).abs, ⟨denote treeTable cL, cL, ⟨0, 0, 0, 0⟩, tF⟩) := by
  kernel_rfl
theorem blk0 (w : World) : (fun os : OsState => segRunT treeTable PW w 11 annL 1 1 (SS tr0 15 187 w os) (blockOf (behindTheImports PW) envL cL ⟨0, 0, 0, 0⟩ tF)) = fun os => some (.next, SS tr0 15 187 w os, cL, ⟨0, 0, 0, 0⟩) := by
  kernel_rfl
theorem fin0 (w : World) : (fun os : OsState => topRun treeTable PW w 11 annL 2 (SS tr8 889 1461 w os).abs ⟨doneF .next, cL, ⟨567, 0, 584, 90⟩, tF⟩) = fun os => some ⟨H1 w.params, #[], boot_drawn, 1461, os⟩ := by
  kernel_rfl
theorem parts : behindTheImports PW = part 0 9 ++ (part 9 7 ++ (part 16 6 ++ (part 22 2 ++ (part 24 3 ++ (part 27 5 ++ (part 32 2 ++ (part 34 8 ++ []))))))) := by
  kernel_rfl
theorem seg_of {a k n : Nat} {t1 t2 : Params → BT} {n1 k1 n2 k2 : Nat} {p1 p2 : Pos} {w : World} (h : PieceP segRunT treeTable execs a k n t1 t2 n1 k1 n2 k2 p1 p2 w) (os : OsState) :
    segRun treeTable PW w 11 annL 1 n (SS t1 n1 k1 w os).abs (piecesOf (part a k) envL cL p1 tF) = some (.next, (SS t2 n2 k2 w os).abs, cL, p2) := segRun_of (congrFun h os)
theorem runs (w : World) (os : OsState) : topRun treeTable PW w 11 annL (12 + (1 + (1338 + (1040 + (863 + (391 + (1637 + (1338 + (87 + (254 + 2)))))))))) ⟨boot_heap w.params, #[], boot_drawn, boot_toks, os⟩ (topStub PW) = some ⟨H1 w.params, #[], boot_drawn, 1461, os⟩ := by
  refine go_top (congrFun (pre0 w) os) ?_
  refine piece_block (segRun_of (congrFun (blk0 w) os)) ?_
  rw [parts]
  refine piece_app (seg_of (pc1 w) os) ?_
  refine piece_app (seg_of (pc2 w) os) ?_
  refine piece_app (seg_of (pc3 w) os) ?_
  refine piece_app (seg_of (pc4 w) os) ?_
  refine piece_app (seg_of (pc5 w) os) ?_
  refine piece_app (seg_of (pc6 w) os) ?_
  refine piece_app (seg_of (pc7 w) os) ?_
  refine piece_app (seg_of (pc8 w) os) ?_
  exact piece_nil (congrFun (fin0 w) os)
noncomputable def KM (P : Params) : Frag := (nat_lit 2, b2x1 P) :: (nat_lit 3, b3x8 P) :: (nat_lit 34, b34 P) :: (nat_lit 35, b35 P) :: (nat_lit 44, b44 P) :: (nat_lit 45, b45 P) :: (nat_lit 55, b55 P) :: (nat_lit 56, b56 P) :: (nat_lit 116, b64 P) :: (nat_lit 122, b122 P) :: (nat_lit 123, b123 P) :: (nat_lit 136, b136 P) :: (nat_lit 137, b137 P) :: (nat_lit 139, b139 P) :: (nat_lit 140, b140 P) :: (nat_lit 150, b150 P) :: (nat_lit 151, b151 P) :: (nat_lit 164, b164 P) :: (nat_lit 165, b165 P) :: (nat_lit 185, b185 P) :: (nat_lit 186, b186 P) :: (nat_lit 200, b200 P) :: (nat_lit 201, b201 P) :: (nat_lit 206, b206 P) :: (nat_lit 212, b212 P) :: (nat_lit 213, b213 P) :: (nat_lit 226, b226 P) :: (nat_lit 227, b227 P) :: (nat_lit 229, b229 P) :: (nat_lit 230, b230 P) :: (nat_lit 247, b247 P) :: (nat_lit 248, b248 P) :: (nat_lit 254, b254 P) :: (nat_lit 255, b255 P) :: (nat_lit 261, b261 P) :: (nat_lit 262, b262 P) :: (nat_lit 268, b268 P) :: (nat_lit 269, b269 P) :: (nat_lit 278, b278 P) :: (nat_lit 279, b279 P) :: (nat_lit 289, b289 P) :: (nat_lit 290, b290 P) :: (nat_lit 303, b303 P) :: (nat_lit 304, b304 P) :: (nat_lit 324, b324 P) :: (nat_lit 325, b325 P) :: (nat_lit 352, b352 P) :: (nat_lit 353, b353 P) :: (nat_lit 359, b359 P) :: (nat_lit 360, b360 P) :: (nat_lit 366, b366 P) :: (nat_lit 367, b367 P) :: (nat_lit 373, b373 P) :: (nat_lit 374, b374 P) :: (nat_lit 387, b387 P) :: (nat_lit 388, b388 P) :: (nat_lit 394, b394 P) :: (nat_lit 395, b395 P) :: (nat_lit 401, b401 P) :: (nat_lit 402, b402 P) :: (nat_lit 408, b408 P) :: (nat_lit 409, b409 P) :: (nat_lit 422, b422 P) :: (nat_lit 423, b423 P) :: (nat_lit 429, b429 P) :: (nat_lit 430, b430 P) :: (nat_lit 432, b432 P) :: (nat_lit 433, b433x4 P) :: (nat_lit 445, b445 P) :: (nat_lit 451, b451 P) :: (nat_lit 452, b452 P) :: (nat_lit 458, b458 P) :: (nat_lit 459, b459 P) :: (nat_lit 465, b465 P) :: (nat_lit 466, b466 P) :: (nat_lit 472, b472 P) :: (nat_lit 473, b473 P) :: (nat_lit 475, b475 P) :: (nat_lit 476, b476 P) :: (nat_lit 484, b484 P) :: (nat_lit 485, b485 P) :: (nat_lit 498, b498 P) :: (nat_lit 499, b499 P) :: (nat_lit 533, b533 P) :: (nat_lit 534, b534 P) :: (nat_lit 536, b536 P) :: (nat_lit 553, b553 P) :: (nat_lit 554, b554 P) :: (nat_lit 556, b556 P) :: (nat_lit 650, b650 P) :: (nat_lit 651, b651 P) :: (nat_lit 668, b668 P) :: (nat_lit 669, b669 P) :: (nat_lit 685, b685 P) :: (nat_lit 686, b686 P) :: (nat_lit 718, b718 P) :: (nat_lit 719, b719 P) :: (nat_lit 726, b726 P) :: (nat_lit 727, b727 P) :: (nat_lit 739, b64 P) :: (nat_lit 745, b745 P) :: (nat_lit 746, b746 P) :: (nat_lit 762, b762 P) :: (nat_lit 763, b763 P) :: (nat_lit 780, b780 P) :: (nat_lit 781, b781 P) :: (nat_lit 823, b823 P) :: (nat_lit 824, b824 P) :: (nat_lit 829, b829 P) :: (nat_lit 835, b835 P) :: (nat_lit 836, b836 P) :: (nat_lit 842, b842 P) :: (nat_lit 843, b843 P) :: (nat_lit 847, b847 P) :: (nat_lit 848, b848 P) :: (nat_lit 854, b854 P) :: (nat_lit 855, b855 P) :: (nat_lit 861, b861 P) :: (nat_lit 862, b862 P) :: (nat_lit 868, b868 P) :: (nat_lit 869, b869 P) :: (nat_lit 875, b875 P) :: (nat_lit 876, b876 P) :: (nat_lit 882, b882 P) :: (nat_lit 883, b883 P) :: (nat_lit 887, b887 P) :: (nat_lit 888, b888 P) :: []
noncomputable def KA : List Addr := nat_lit 2 :: nat_lit 3 :: nat_lit 34 :: nat_lit 35 :: nat_lit 44 :: nat_lit 45 :: nat_lit 55 :: nat_lit 56 :: nat_lit 116 :: nat_lit 122 :: nat_lit 123 :: nat_lit 136 :: nat_lit 137 :: nat_lit 139 :: nat_lit 140 :: nat_lit 150 :: nat_lit 151 :: nat_lit 164 :: nat_lit 165 :: nat_lit 185 :: nat_lit 186 :: nat_lit 200 :: nat_lit 201 :: nat_lit 206 :: nat_lit 212 :: nat_lit 213 :: nat_lit 226 :: nat_lit 227 :: nat_lit 229 :: nat_lit 230 :: nat_lit 247 :: nat_lit 248 :: nat_lit 254 :: nat_lit 255 :: nat_lit 261 :: nat_lit 262 :: nat_lit 268 :: nat_lit 269 :: nat_lit 278 :: nat_lit 279 :: nat_lit 289 :: nat_lit 290 :: nat_lit 303 :: nat_lit 304 :: nat_lit 324 :: nat_lit 325 :: nat_lit 352 :: nat_lit 353 :: nat_lit 359 :: nat_lit 360 :: nat_lit 366 :: nat_lit 367 :: nat_lit 373 :: nat_lit 374 :: nat_lit 387 :: nat_lit 388 :: nat_lit 394 :: nat_lit 395 :: nat_lit 401 :: nat_lit 402 :: nat_lit 408 :: nat_lit 409 :: nat_lit 422 :: nat_lit 423 :: nat_lit 429 :: nat_lit 430 :: nat_lit 432 :: nat_lit 433 :: nat_lit 445 :: nat_lit 451 :: nat_lit 452 :: nat_lit 458 :: nat_lit 459 :: nat_lit 465 :: nat_lit 466 :: nat_lit 472 :: nat_lit 473 :: nat_lit 475 :: nat_lit 476 :: nat_lit 484 :: nat_lit 485 :: nat_lit 498 :: nat_lit 499 :: nat_lit 533 :: nat_lit 534 :: nat_lit 536 :: nat_lit 553 :: nat_lit 554 :: nat_lit 556 :: nat_lit 650 :: nat_lit 651 :: nat_lit 668 :: nat_lit 669 :: nat_lit 685 :: nat_lit 686 :: nat_lit 718 :: nat_lit 719 :: nat_lit 726 :: nat_lit 727 :: nat_lit 739 :: nat_lit 745 :: nat_lit 746 :: nat_lit 762 :: nat_lit 763 :: nat_lit 780 :: nat_lit 781 :: nat_lit 823 :: nat_lit 824 :: nat_lit 829 :: nat_lit 835 :: nat_lit 836 :: nat_lit 842 :: nat_lit 843 :: nat_lit 847 :: nat_lit 848 :: nat_lit 854 :: nat_lit 855 :: nat_lit 861 :: nat_lit 862 :: nat_lit 868 :: nat_lit 869 :: nat_lit 875 :: nat_lit 876 :: nat_lit 882 :: nat_lit 883 :: nat_lit 887 :: nat_lit 888 :: []
theorem KA_is (P : Params) : KA = (KM P).map (·.1) := by kernel_rfl
noncomputable def HK : Hook := kHook KM KA KA_is
noncomputable def qV : Program := view PW [41]
noncomputable def looseL : List PySem.Str := [PySem.Str.ofString "_wall", PySem.Str.ofString "Position", PySem.Str.ofString "position_of", PySem.Str.ofString "ToolError", PySem.Str.ofString "TableError", PySem.Str.ofString "ScanError", PySem.Str.ofString "Token", PySem.Str.ofString "end_token", PySem.Str.ofString "DEAD", PySem.Str.ofString "Dfa", PySem.Str.ofString "endings", PySem.Str.ofString "Cut", PySem.Str.ofString "LexTables", PySem.Str.ofString "any_reject", PySem.Str.ofString "is_final", PySem.Str.ofString "cut_length", PySem.Str.ofString "searched_cut", PySem.Str.ofString "Reader", PySem.Str.ofString "Scanner", PySem.Str.ofString "trace", PySem.Str.ofString "TOP", PySem.Str.ofString "CharSet", PySem.Str.ofString "Classes", PySem.Str.ofString "LexStep", PySem.Str.ofString "LexRule", PySem.Str.ofString "_law_NUMBERS", PySem.Str.ofString "_law_pen", PySem.Str.ofString "_law_draw", PySem.Str.ofString "_law_automaton", PySem.Str.ofString "_law_cut", PySem.Str.ofString "_law_body", PySem.Str.ofString "_law_choice", PySem.Str.ofString "_law_due", PySem.Str.ofString "_law_line"]
noncomputable def XtL (s : Shared) : Bool := xlAt qV [] s && recOk (RowW.records PySem.Challenge.rw_qd0070_01.row.toRowW) s
theorem open0 : ∀ w : World, (fencedOpening treeTable PW w 20000).map (fun s => (s.heap, s.gens, s.drawn, s.toks)) = some (boot_heap w.params, Array.mk [], boot_drawn, boot_toks) :=
  boot_open (by kernel_rfl) (by decide) (by intro s; kernel_rfl)
theorem size0 (w : World) : ((boot_heap w.params).isNs mainGlobals && (#[] : Array GenState).size == 0, (boot_heap w.params).objs.size, (boot_heap w.params).nsMap mainGlobals "__annotations__") = (true, 11, annL) := by
  kernel_rfl
theorem look1 (w : World) : (fun os : OsState => (staticsOk (importedModules PW.main.body) (boot_heap w.params) (H1 w.params) && namesBound PW (H1 w.params) && gensDone ⟨H1 w.params, #[], boot_drawn, 1461, os⟩ && laidKept (boot_heap w.params) (H1 w.params))) = fun _ => true := by
  kernel_rfl
theorem look2 (w : World) : (fun os : OsState => openSeen qV looseL (importedModules PW.main.body) XtL true ⟨H1 w.params, #[], boot_drawn, 1461, os⟩) = fun _ => openGood qV looseL := by
  rw [PySem.W.Fast.te4187177175401517315]
  kernel_rfl
theorem look3 (w : World) : (fun os : OsState => HK.obs ⟨H1 w.params, #[], boot_drawn, 1461, os⟩) = fun _ => HK.val w := by
  kernel_rfl
theorem left : LeftO PW qV looseL XtL HK.obs HK.val 20000 :=
  LeftO.of_pieces (H₀ := boot_heap) (H₁ := H1) (gs₀ := #[]) (gs₁ := #[]) (d₀ := boot_drawn) (d₁ := boot_drawn) (k₀ := boot_toks) (k₁ := 1461) (m₀ := 11) (ann := annL) open0 size0 runs (by decide) fun w => by
    funext os
    exact Prod.ext (congrFun (look1 w) os) (Prod.ext (congrFun (look2 w) os) (congrFun (look3 w) os))

end
theorem said : PySem.Challenge.rw_qd0070_01.wellSaid = true := by
  rw [PySem.W.Fast.te9446332074065402090]
  kernel_rfl
open PySem.Calls
section
open Lean Lean.Parser.Tactic
def κnd (k : Name) (l : List Syntax) : Syntax := .node .none k l.toArray
def κtm (s : String) : Syntax := .atom .none s
def κnu (l : List Syntax) : Syntax := κnd `null l
def κsep (s : String) (l : List Syntax) : Syntax := κnu (l.intersperse (κtm s))
def κsq (l : List Syntax) : Syntax := κnd ``tacticSeq [κnd ``tacticSeq1Indented [κsep ";" l]]
def κta (k : Name) (s : String) (l : List Syntax) : Syntax := κnd k (κtm s :: l)
def κpa (l : List Syntax) : Syntax := κta ``Lean.Parser.Tactic.paren "(" [κsq l, κtm ")"]
def κbyS (l : List Syntax) : Syntax := κta ``Lean.Parser.Term.byTactic "by" [κsq l]
def κbyT (t : Syntax) : Syntax := κbyS [t]
def κbyK (k : Name) (s : String) : Syntax := κbyT (κta k s [])
def κi (n : Name) : Syntax := mkIdent n
def κim (n : Name) : Syntax := mkIdent (addMacroScope `M n 1)
def κsl (s : String) : Syntax := Syntax.mkStrLit s
def κnl (s : String) : Syntax := Syntax.mkNumLit s
def κwa (s : String) : Syntax := κta ``PyProof.Rows.tacticWalk_at_ "walk_at" [κsl s]
def κap (f : Name) (l : List Syntax) : Syntax := κnd ``Lean.Parser.Term.app [κi f, κnu l]
def κna (n : Name) (t : Syntax) : Syntax := κta ``Lean.Parser.Term.namedArgument "(" [κi n, κtm ":=", t, κtm ")"]
def κlst (l : List Syntax) : Syntax := κta `«term[_]» "[" [κsep "," l, κtm "]"]
def κcfg : Syntax := κnd ``optConfig [κnu []]
def κrfs : Syntax := κta ``tacticRfl "rfl" []
def κas : Syntax := κta ``assumption "assumption" []
def κli : Syntax := κta ``lia "lia" [κcfg]
def κde : Syntax := κta ``Lean.Parser.Tactic.decide "decide" [κcfg]
def κwua (t : Syntax) : Syntax := κta ``withUnfoldingAll "with_unfolding_all" [κsq [t]]
def κwr (t : Syntax) : Syntax := κta ``withReducible "with_reducible" [κsq [t]]
def κrf (t : Syntax) : Syntax := κta ``refine "refine" [t]
def κex (t : Syntax) : Syntax := κta ``exact "exact" [t]
def κq0 : Syntax := κta ``Lean.Parser.Term.syntheticHole "?" [κtm "_"]
def κsy (n : Name) : Syntax := κta ``Lean.Parser.Term.syntheticHole "?" [κi n]
def κh_ : Syntax := κta ``Lean.Parser.Term.hole "_" []
def κqa : Syntax := κbyK ``PySem.W.tacticK_asm "k_asm"
def κqb : Syntax := κbyT κas
def κqm : Syntax := κbyK ``PySem.W.tacticK_mem "k_mem"
def κql : Syntax := κbyT κli
def κqu : Syntax := κbyT (κwua κrfs)
def κqr : Syntax := κbyT κrfs
def κqd : Syntax := κbyT κde
def κqn : Syntax := κbyT (κwa "lens")
def κqi : Syntax := κbyS [κta ``intro "intro" [κnu [κh_]], κwua κrfs]
def κqp : Syntax := κbyK ``PySem.W.tacticKmk_part "kmk_part"
def κqe : Syntax := κbyK ``PySem.W.tacticKmk_pure "kmk_pure"
def κqk : Syntax := κbyK ``PySem.W.tacticK_upd "k_upd"
def κqx : Syntax := κbyK ``PySem.W.tacticK_all "k_all"
def κqs : Syntax := κbyT (κwa "xS")
def κgr : Syntax := κap `Value.ref [κh_]
def κgi : Syntax := κap `Value.int [κh_, κh_]
def κgb : Syntax := κap `Value.builtin [κh_]
def κtr (l : List Syntax) : Syntax := κpa [κta ``tacticTry_ "try" [κsq l]]
def κsmo (l : List Name) (o : Option Name) : Syntax := κta ``simp "simp" [κcfg, κnu [], κnu [κtm "only"], κnu [κtm "[", κsep "," (l.map fun n => κnd ``simpLemma [κnu [], κnu [], κi n]), κtm "]"], match o with
  | none => κnu []
  | some n => κnu [κta ``location "at" [κnd ``locationHyp [κnu [κim n]]]]]
def κdsm (l : List Name) (o : Option Name) : Syntax := κta ``dsimp "dsimp" [κcfg, κnu [], κnu [κtm "only"], match l with
  | [] => κnu []
  | l => κnu [κtm "[", κsep "," (l.map fun n => κnd ``simpLemma [κnu [], κnu [], κi n]), κtm "]"], match o with
  | none => κnu []
  | some n => κnu [κta ``location "at" [κnd ``locationHyp [κnu [κim n]]]]]
def κhr : Syntax := κta ``PySem.W.tacticK_here "k_here" []
def κsw : Syntax := κtr [κta ``PySem.W.tacticK_sweep "k_sweep" []]
def κins : Syntax := κta ``intros "intros" [κnu []]
def κrni (l : List Name) : Syntax := κta ``renameI "rename_i" [κnu (l.map fun n => κnd ``Lean.binderIdent [κim n])]
def κklt : Syntax := κtr [κta ``PySem.W.tacticK_lt_ "k_lt" [κim `l1]]
def κtO (l : List Syntax) : Syntax := κta ``first "first" [κnu (l.map fun c => κta `group "|" [κsq [c]])]
def κsub (f : Name) : Syntax := κbyT (κtO [κas, κex (κap f [κqb, κbyT (κwa "sub tail")])])
def κkd (l : List Syntax) : Syntax := κta ``PySem.W.tacticK_dflt_ "k_dflt" [κpa l]
def κwh : Syntax := κta ``PySem.W.tacticK_whole "k_whole" []
def κhol : Syntax := κrf (κap `Hold.of [κq0])
def κtD (f : Name) (l : List Syntax) : Syntax := κpa [κhr, κkd [κrf (κap f l)]]
def κtA (f : Name) (l : List Syntax) : Syntax := κpa [κhr, κkd [κrf (κap f l), κwh]]
def κtI (c : Syntax) : Syntax := κpa [c, κins, κsw]
def κtL (c : Syntax) : Syntax := κpa [c, κins, κrni [`l1], κklt, κsw]
def κtB (f : Name) (l : List Syntax) : Syntax := κtI (κtA f (κna `k (κnl "0") :: κqs :: κqa :: κqa :: (l ++ [κq0])))
def κgd (t : Syntax) : Syntax := κwr (κta ``Lean.Parser.Tactic.show "show" [κap `wpAny [κh_, κh_, t, κh_, κh_, κh_]])
def κtC (t : Syntax) (c : Syntax) : Syntax := κpa [κhr, κgd t, c]
def κcs (n : Name) (t : Syntax) : Syntax := κta ``case "case" [κnu [κnd ``caseArg [κnd ``Lean.binderIdent [κi n], κnu []]], κtm "=>", κsq [t]]
end
local macro_rules | `(tactic| walk_at "xS") => pure (κex (κap `Sit.lessN [κqb, κqd]))
local macro_rules | `(tactic| walk_at "xF") => pure (κpa [κhr, (κwua (κrf (κap `For_turns [κqa, κq0, (κbyS [(κta `Lean.Parser.Tactic.intro "intro" [κnu [κh_]]), κrfs]), (κi `PassesOwn.never)])))])
local macro_rules | `(tactic| walk_at "xW") => pure (κpa [κtD `whileL [κqa, κq0, (κi `PassesOwn.never)], κhol])
abbrev MD (w : World) : Model := model PySem.Challenge.rw_qd0070_01.row.prog w
theorem fillK {w : World} {P : Prop} (h : KM w.params = KM w.params → model PySem.Challenge.rw_qd0070_01.row.prog w = model PySem.Challenge.rw_qd0070_01.row.prog w → P) : P := h rfl rfl

/-- the situation of a call: the frame L over the base h₀, room for k calls more -/
inductive Sit (w : World) (k : Nat) (h₀ : Heap) (L : Addr) (A : Around) : Prop
  | mk : ∀ (dp un : Nat) (gd : Option (List Code)) (env : Env) (outer : List Env) (A₀ : Around) (base : Heap) (loose : List Str) (mean : ExcName → Option Value) (mg mb : Str → Option Value), (A = { handled := none, depth := dp, frames := some (env :: outer), guards := gd, units := un }) → (Below A₀ base outer h₀) → ((KM w.params).In h₀) → (Top qV loose mean mg mb h₀) → (env.frame = some L) → (env.scope.kind = .function) → (dp + k < recursionLimit) → (un + 8 * k < cLine) → Sit w k h₀ L A
theorem Sit.of {w : World} {k dp un : Nat} {gd : Option (List Code)} {env : Env} {outer : List Env} {A₀ : Around} {base h₀ : Heap} {L : Addr} {loose : List Str} {mean : ExcName → Option Value} {mg mb : Str → Option Value}
    (B : Below A₀ base outer h₀) (X : (KM w.params).In h₀) (T : Top qV loose mean mg mb h₀) (hf : env.frame = some L) (hk : env.scope.kind = .function) (hd : dp + k < recursionLimit) (hu : un + 8 * k < cLine) :
    Sit w k h₀ L { handled := none, depth := dp, frames := some (env :: outer), guards := gd, units := un } :=
  ⟨dp, un, gd, env, outer, A₀, base, loose, mean, mg, mb, rfl, B, X, T, hf, hk, hd, hu⟩
theorem Sit.less {w : World} {k j : Nat} {h₀ : Heap} {L : Addr} {A : Around} (S : Sit w k h₀ L A) (h : j ≤ k) : Sit w j h₀ L A := by
  obtain ⟨dp, un, gd, env, outer, A₀, base, loose, mean, mg, mb, e, B, X, T, hf, hk, hd, hu⟩ := S
  exact ⟨dp, un, gd, env, outer, A₀, base, loose, mean, mg, mb, e, B, X, T, hf, hk, by lia, by lia⟩

/-- the end of a called body: what the frame g knows, and what the caller makes of it -/
def EndK (h₀ : Heap) (L : Addr) (m : Str → Option Value) (g : Heap) (Q : Value → Shared → Prop) (v : Value) (s' : Shared) : Prop :=
  ∃ L'' m' news', Fr g L'' s'.heap m' ∧ News g L'' s'.heap news' ∧ (Fr h₀ L s'.heap m → News h₀ L s'.heap news' → Q v s')
theorem EndK.of {h₀ g : Heap} {L L' : Addr} {m m' : Str → Option Value} {news' : List (Addr × Obj)} {Q : Value → Shared → Prop} {v : Value} {s' : Shared} (F' : Fr g L' s'.heap m') (N' : News g L' s'.heap news')
    (k : Fr h₀ L s'.heap m → News h₀ L s'.heap news' → Q v s') : EndK h₀ L m g Q v s' := ⟨L', m', news', F', N', k⟩
theorem enter {w : World} {k : Nat} {A : Around} {s : Shared} {h₀ : Heap} {L : Addr} {m : Str → Option Value} {news : List (Addr × Obj)} {Q E : Value → Shared → Prop}
    {name qual : Str} {params : Arguments} {body : List Stmt} {scope : Scope} {dV kV doc pm cdv ct oc : Value} {an od : Option Addr} {osl : Array (Option Value)} {f : Addr} {args : List Value} (binds : List (Str × Value))
    (S : Sit w (k + 1) h₀ L A) (F : Fr h₀ L s.heap m) (N : News h₀ L s.heap news)
    (ho : List.lookup f (KM w.params) = some ⟨oc, od, .func (fnOf name qual params body scope dV kV doc pm an cdv ct), osl⟩) (hcd : codeIn (KM w.params) cdv qual = true)
    (hbind : ∀ s' : Shared, (KM w.params).In s'.heap → BindsTo s' (fnOf name qual params body scope dV kV doc pm an cdv ct) ⟨args, []⟩ binds) (hloc : ∀ y ∈ binds, scope.names.lookup y.1 = some .local)
    (hco : scope.isCoroutine = false) (hgen : scope.isGenerator = false) (hk : scope.kind = .function) (hcell : ∀ x ∈ scope.names, x.2 ≠ .cell)
    (h : ∀ (dp un : Nat) (gd : Option (List Code)) (outer : List Env) (A₀ : Around) (base : Heap) (loose : List Str) (mean : ExcName → Option Value) (mg mb : Str → Option Value) (g : Heap) (L' : Addr) (h₁ : Heap) (tk : Nat),
      Sit w k g L' { handled := none, depth := dp, frames := some (envOf qual scope L' f cdv :: outer), guards := gd, units := un } →
      Below A₀ base outer g → Fr g L' h₁ (fun y => binds.reverse.lookup y) → (KM w.params).In g → News g L' h₁ news → (∀ p ∈ news, p.1 < L') → Top qV loose mean mg mb g → dp + k < recursionLimit → un + 8 * k < cLine → h₀.StaysIn g →
      wpAny (MD w) { handled := none, depth := dp, frames := some (envOf qual scope L' f cdv :: outer), guards := gd, units := un } (execs body (envOf qual scope L' f cdv))
        (fun fl s' => EndK h₀ L m g Q (match fl with | .ret v => v | _ => .none) s') (fun _ _ => False) { s with heap := h₁, toks := tk }) :
    wpAny (MD w) A (call (.ref f) args) Q E s := by
  obtain ⟨dp, un, gd, env, outer, A₀, base, loose, mean, mg, mb, rfl, B, X, T, hf, hke, hd, hu⟩ := S
  refine wpAny_call ?_
  refine callX_plain (cl := []) (binds := binds) B F N T.nolimit rfl hf hke ((X.keeps F.keep) _ _ ho) rfl (codeRec_of (X.keeps F.keep) hcd) (by show dp < _; lia) (hbind _ (X.keeps F.keep)) hloc (fun g L' h₁ FG F' N' B' st lt => ?_) hcell hco hgen hk
  have hk' : (envOf qual scope L' f cdv).scope.kind = .function := hk
  have := h (dp + 1) (un + 3) gd (env :: outer) _ base loose mean mg mb g L' h₁ (s.toks + binds.length) (Sit.of B' (X.keeps st) (T.keeps st) rfl hk' (by lia) (by lia)) B' F' (X.keeps st) N' lt (T.keeps st) (by lia) (by lia) st
  refine wpAny_mono this (fun fl s' hl => ?_) (fun _ _ e => e.elim)
  exact hl
theorem off_mem {d : Addr} {r : List (Addr × Obj)} (h : ∀ p ∈ r, p.1 ≠ d) : ∀ p ∈ r, p.1 ≠ d := h
theorem off_le {d e : Nat} {r : List (Addr × Obj)} (h : AllLt e r) (hle : e ≤ d) : ∀ p ∈ r, p.1 ≠ d := by
  induction r with
  | nil => intro p hp; cases hp
  | cons q r ih =>
    intro p hp
    rcases List.mem_cons.mp hp with rfl | hp
    · exact Nat.ne_of_lt (Nat.lt_of_lt_of_le h.1 hle)
    · exact ih h.2 p hp
theorem allLt_and {e : Addr} {r : List (Addr × Obj)} {p : Prop} (h : p ∧ AllLt e r) : AllLt e r := h.2
local macro_rules | `(tactic| k_all) => pure (κtO [(κex (κap `off_le [(κbyT (κwr κas)), κql])), (κex (κap `off_le [(κap `allLt_and [(κbyT (κwr κas))]), κql])), (κex (κap `off_le [(κap `allLt_and [(κap `allLt_and [(κbyT (κwr κas))])]), κql]))])
local macro_rules | `(tactic| k_all) => pure (κtO [(κex (κap `PySem.W.tbn_neAll [(κbyT (κwr κas))])), (κex (κap `off_mem [(κbyT (κwr κas))]))])

theorem memTl {α : Type} {a b : α} {l : List α} (h : a ∈ l) : a ∈ b :: l := List.mem_cons_of_mem _ h
local macro_rules | `(tactic| k_mem) => pure (κtO [(κpa [(κrf (κap `memTl [κq0])), (κta `PySem.W.tacticKtr_member "ktr_member" [])]), (κpa [(κrf (κap `memTl [(κap `memTl [κq0])])), (κta `PySem.W.tacticKtr_member "ktr_member" [])]), (κpa [(κrf (κap `memTl [(κap `memTl [(κap `memTl [κq0])])])), (κta `PySem.W.tacticKtr_member "ktr_member" [])]), (κpa [(κrf (κap `memTl [(κap `memTl [(κap `memTl [(κap `memTl [κq0])])])])), (κta `PySem.W.tacticKtr_member "ktr_member" [])])])
section
variable {prog : Program} {w : World} {A : Around} {E : Value → Shared → Prop} {s : Shared} {h₀ : Heap} {L D : Addr} {m : Str → Option Value} {news news' : List (Addr × Obj)} {its : Array Value} {v : Value} {n : Nat} {k : Int} {t : Tok}
theorem setItem_L {Q : Unit → Shared → Prop} (F : Fr h₀ L s.heap m) (N : News h₀ L s.heap news) (U : Upd D (W.listOf its n) (W.listOf (its.setIfInBounds k.toNat v) n) news news') (h0 : 0 ≤ k) (h1 : k < its.size) (hfit : k < 2 ^ 63)
    (h : ∀ h', Fr h₀ L h' m → News h₀ L h' news' → Q () { s with heap := h' }) :
    wpAny (model prog w) A (setItem (.ref D) (.int k t) v) Q E s := by
  obtain ⟨pre, post, rfl, rfl, a, b⟩ := U.split
  have z := N (D, W.listOf its n) (List.mem_append.mpr (.inr (.head _)))
  refine ki_setAt z.1 h0 hfit h1 (h _ (F.change (Heap.SameBut.update ..) z.2.1 z.2.2) (ki_turn _ N a b ?_ ?_))
  · rfl
  · simp
/-- an item of a written list at a written place -/
theorem item_L {value slice : PySem.Expr} {vs : List Value} {Q : Value → Shared → Prop} (N : News h₀ L s.heap news) (hm : (D, W.listOf vs.toArray n) ∈ news) (h0 : 0 ≤ k) (hfit : k < 2 ^ 63) (hx : vs[k.toNat]? = some v) (h : Q v s)
    (hs : subscripted slice false (.ref D) (.int k t) = operate [.ref D, .int k t] (getItem (.ref D) (.int k t)) := by with_unfolding_all rfl) :
    wpAny (model prog w) A (subscriptTail value slice (.ref D) (.int k t)) Q E s :=
  have hl : s.heap.IsList D vs.toArray := PySem.IsL.isList (n := n) (N _ hm).1
  tail_any hl.typeIs slot_list_getitem.lookup (wpAny_getItem_list hl h0 hfit (by simpa using hx) h) hs
/-- two written lists put behind one another -/
theorem addL_L {l b : Addr} {vs ws : List Value} {n n2 : Nat} {Q : Value → Shared → Prop} (F : Fr h₀ L s.heap m) (N : News h₀ L s.heap news) (hl : (l, W.listOf vs.toArray n) ∈ news) (hb : (b, W.listOf ws.toArray n2) ∈ news) (hsz : vs.length + ws.length ≤ sizeLine)
    (h : ∀ p h', Fr h₀ L h' m → News h₀ L h' ((p, W.listOf (vs ++ ws).toArray 0) :: news) → (∀ q ∈ news, q.1 < p) → Q (.ref p) { s with heap := h' }) :
    wpAny (model prog w) A (binaryOp .Add (.ref l) (.ref b)) Q E s :=
  add_lists (hsz := hsz) F N (PySem.IsL.isList (n := n) (N _ hl).1) (PySem.IsL.isList (n := n2) (N _ hb).1) fun h' F' N' => h _ h' F' N' fun q hq => Heap.lt_size (N q hq).1
/-- divmod of two ints: the new pair lies above all -/
theorem divmod_L {a b : Int} {t u : Tok} {Q : Value → Shared → Prop} (F : Fr h₀ L s.heap m) (N : News h₀ L s.heap news) (hb : b ≠ 0)
    (h : ∀ p h' t1 t2, Fr h₀ L h' m → News h₀ L h' ((p, { cls := .type "tuple", data := .seq #[.int (a.fdiv b) t1, .int (a.fmod b) t2] }) :: news) → (∀ q ∈ news, q.1 < p) → Q (.ref p) { s with toks := s.toks + 1 + 1, heap := h' })
    (hp : Builtin.divisionGoesByPylong a b = false ∨ PySem.PylongRoom (model prog w) A s) :
    wpAny (model prog w) A (call (.builtin "divmod") [.int a t, .int b u]) Q E s :=
  divmod_N F N hb (fun h' F' N' => h _ h' _ _ F' N' fun q hq => Heap.lt_size (N q hq).1) hp
end
local macro_rules | `(tactic| walk_at "setItem ref int") => pure (κpa [κtC (κap `setItem [κgr, κgi, κh_]) (κtA `setItem_L [κqa, κqa, κqk, κqd, (κbyT (κpa [(κta `Lean.Parser.Tactic.simp "simp" [κcfg, κnu [], κnu [], κnu [], κnu []]), (κta `Lean.Parser.Tactic.done "done" [])])), κqd, κq0]), κins, (κrni [`N']), (κtr [(κsmo [`List.setIfInBounds_toArray, `List.set_cons_zero, `List.set_cons_succ, `Int.toNat_zero, `Int.toNat_one, `Int.reduceToNat] (some `N'))]), κsw])
local macro_rules | `(tactic| walk_at "subscriptTail Name Constant ref int") => pure (κtC (κap `subscriptTail [κh_, κh_, κgr, κgi]) (κtA `item_L [κqa, κqm, κqd, κqd, (κi `rfl), κq0, κqu]))
local macro_rules | `(tactic| walk_at "binaryOp Add ref ref") => pure (κtC (κap `binaryOp [κh_, κgr, κgr]) (κtL (κtA `addL_L [κqa, κqa, κqm, κqm, (κbyT (κpa [(κta `Lean.Parser.Tactic.rwSeq "rw" [κcfg, (κta `Lean.Parser.Tactic.rwRuleSeq "[" [κnu [(κnd `Lean.Parser.Tactic.rwRule [κnu [], (κi `PySem.sizeLine_eq)])], κtm "]"]), κnu []]), (κsmo [`List.length_map, `List.length_cons, `List.length_nil] none), κli])), κq0])))
local macro_rules | `(tactic| walk_at "call builtin:divmod") => pure (κtC (κap `call [κgb, (κlst [κgi, κgi])]) (κtL (κtA `divmod_L [κqa, κqa, κql, κq0, (κap `Or.inl [(κap `PyProof.noPylong_small [κql])])])))
theorem newsSk1 {h₀ h : Heap} {L : Addr} {p q : Addr × Obj} {l : List (Addr × Obj)} (N : News h₀ L h (p :: q :: l)) : News h₀ L h (p :: l) := PyProof.Rows.News.perm N fun x hx => by
  rcases List.mem_cons.mp hx with rfl | hx
  · exact .head _
  · exact .tail _ (.tail _ hx)
theorem newsSwap {h₀ h : Heap} {L : Addr} {p q : Addr × Obj} {l : List (Addr × Obj)} (N : News h₀ L h (p :: q :: l)) : News h₀ L h (q :: p :: l) := PyProof.Rows.News.perm N fun x hx => by
  rcases List.mem_cons.mp hx with rfl | hx
  · exact .tail _ (.head _)
  · rcases List.mem_cons.mp hx with rfl | hx
    · exact .head _
    · exact .tail _ (.tail _ hx)
/-- for's are taken by hand where a word is given -/
local macro_rules | `(tactic| walk_at "exec For") => pure (κta `PySem.W.tacticK_extra_ "k_extra" [(κsl "for")])
local macro_rules | `(tactic| walk_at "pyIter ref") => pure (κta `PySem.W.tacticK_extra_ "k_extra" [(κsl "iter")])
abbrev up (x : Str) (v : Option Value) (m : Str → Option Value) : Str → Option Value := fun y => if y = x then v else m y
theorem up_id (x : Str) (m : Str → Option Value) : up x (m x) m = m := by
  funext y
  by_cases h : y = x
  · simp [up, h]
  · simp [up, h]
theorem up_none {x : Str} {m : Str → Option Value} (h : m x = none) : m = up x none m := by
  funext y
  by_cases e : y = x
  · simp [up, e, h]
  · simp [up, e]
theorem up_same {x y : Str} {v u : Option Value} {a b : Option Value} {m : Str → Option Value} : up x v (up y a (up x u (up y b m))) = up x v (up y a m) := by
  funext z
  unfold up
  split
  · rfl
  · split <;> rfl
local macro_rules | `(tactic| walk_at "same locals") => pure (κpa [(κta `tacticFunext___ "funext" [κnu [(κi `y)]]), (κtr [(κdsm [`up] none)]), (κnd `Lean.Parser.Tactic.«tactic_<;>_» [(κta `Lean.Parser.Tactic.repeat' "repeat'" [(κnd `Lean.Parser.Tactic.tacticSeq [(κnd `Lean.Parser.Tactic.tacticSeq1Indented [κnu [(κta `Lean.Parser.Tactic.split "split" [κnu [], κnu []])]])])]), κtm "<;>", (κtO [κrfs, (κta `Lean.Parser.Tactic.simpAll "simp_all" [κcfg, κnu [], κnu [], κnu []])])])])
theorem Sit.lessN {w : World} {k a b : Nat} {h₀ : Heap} {L : Addr} {A : Around} (S : Sit w (k + b) h₀ L A) (h : Nat.ble a b = true) : Sit w (0 + a) h₀ L A :=
  S.less (Nat.add_le_add (Nat.zero_le k) (Nat.le_of_ble_eq_true h))
theorem neL {a b : Nat} (h : a < b) : @Ne Nat a b := Nat.ne_of_lt h
theorem neG {a b : Nat} (h : b < a) : @Ne Nat a b := Nat.ne_of_gt h
theorem cj2 {A B C : Prop} (h : A ∧ B ∧ C) : B := h.2.1
theorem cj3 {A B C D : Prop} (h : A ∧ B ∧ C ∧ D) : C := h.2.2.1
theorem cj4 {A B C D F : Prop} (h : A ∧ B ∧ C ∧ D ∧ F) : D := h.2.2.2.1
theorem cj5 {A B C D F G : Prop} (h : A ∧ B ∧ C ∧ D ∧ F ∧ G) : F := h.2.2.2.2.1
theorem cj6 {A B C D F G H : Prop} (h : A ∧ B ∧ C ∧ D ∧ F ∧ G ∧ H) : G := h.2.2.2.2.2.1
theorem cj7 {A B C D F G H I : Prop} (h : A ∧ B ∧ C ∧ D ∧ F ∧ G ∧ H ∧ I) : H := h.2.2.2.2.2.2.1
theorem cjz3 {A B C : Prop} (h : A ∧ B ∧ C) : C := h.2.2
theorem cjz4 {A B C D : Prop} (h : A ∧ B ∧ C ∧ D) : D := h.2.2.2
theorem cjz5 {A B C D F : Prop} (h : A ∧ B ∧ C ∧ D ∧ F) : F := h.2.2.2.2
local macro_rules | `(tactic| walk_at "cj") => pure (κwr (κtO [κas, (κex (κap `And.left [κqb])), (κex (κap `And.right [κqb])), (κex (κap `cj2 [κqb])), (κex (κap `cjz3 [κqb])), (κex (κap `cj3 [κqb])), (κex (κap `cjz4 [κqb])), (κex (κap `cj4 [κqb])), (κex (κap `cjz5 [κqb])), (κex (κap `cj5 [κqb])), (κex (κap `cj6 [κqb])), (κex (κap `cj7 [κqb]))]))
local macro_rules | `(tactic| k_ne) => pure (κtO [(κwr (κtO [κas, (κpa [(κta `Lean.Parser.Tactic.apply "apply" [(κi `Ne.symm)]), κas]), (κpa [(κrf (κap `neN [κq0])), (κtO [(κpa [(κrf (κap `neL [κq0])), (κwa "cj")]), (κpa [(κrf (κap `neG [κq0])), (κwa "cj")]), (κwa "cj"), (κpa [(κrf (κap `Ne.symm [κq0])), (κwa "cj")])])])]))])
abbrev VSP := Value → Shared → Prop
abbrev SOV := Str → Option Value
abbrev LAO := List (Addr × Obj)
abbrev EOV := ExcName → Option Value
structure Cx where
  m : SOV
  ro : LAO
  Q : VSP
  E : VSP
  s : Shared
  A : Around
  L : Addr
  h₀ : Heap
  k : Nat
  w : World
  dp : Nat
  un : Nat
  gd : Option (List Code)
  outer : List Env
  A₀ : Around
  base : Heap
  loose : List Str
  mean : EOV
  mg : SOV
  mb : SOV
  g : Heap
  L' : Addr
  h₁ : Heap
  tk : Nat
theorem neC : Nonempty Cx := ⟨{ m := default, ro := [], Q := default, E := default, s := {}, A := {}, L := 0, h₀ := {}, k := 0, w := aWorld 0, dp := 0, un := 0, gd := none, outer := [], A₀ := {}, base := {}, loose := [], mean := default, mg := default, mb := default, g := {}, L' := 0, h₁ := {}, tk := 0 }⟩
theorem neP {α β : Type} (a : Nonempty α) (b : Nonempty β) : Nonempty (α × β) := let ⟨x⟩ := a; let ⟨y⟩ := b; ⟨(x, y)⟩
local macro_rules | `(tactic| walk_at "ne") => pure ((κta `Lean.Parser.Tactic.repeat' "repeat'" [(κnd `Lean.Parser.Tactic.tacticSeq [(κnd `Lean.Parser.Tactic.tacticSeq1Indented [κnu [(κtO [(κex (κi `neC)), (κrf (κap `neP [κq0, κq0])), (κta `Lean.Parser.Tactic.tacticInfer_instance "infer_instance" []), (κex (κta `Lean.Parser.Term.anonymousCtor "⟨" [κnu [(κbyT (κta `Lean.Parser.Tactic.repeat' "repeat'" [(κnd `Lean.Parser.Tactic.tacticSeq [(κnd `Lean.Parser.Tactic.tacticSeq1Indented [κnu [(κtO [(κex (κi `default)), (κta `Lean.Parser.Tactic.constructor "constructor" [])])]])])]))], κtm "⟩"]))])]])])]))
noncomputable def ep {α : Type} (P : α → Prop) (n : Nonempty α) : α := @Classical.epsilon α n fun c => ¬ P c
theorem ep_all {α : Type} {P : α → Prop} {n : Nonempty α} (h : P (ep P n)) (x : α) : P x :=
  Classical.byContradiction fun m => Classical.epsilon_spec (p := fun c => ¬ P c) ⟨x, m⟩ h
theorem ep_go {α : Type} {P : α → Prop} {n : Nonempty α} {T : Prop} (h : P (ep P n)) (x : α) (e : P x = T) : T := e ▸ ep_all h x
theorem lessK {w : World} {k n : Nat} {h₀ : Heap} {L : Addr} {A : Around} {P : Prop} (S : Sit w (k + n) h₀ L A) (h : Sit w n h₀ L A → P) : P := h (Sit.less S (Nat.le_add_left n k))
theorem Sit.lessL {w : World} {a n : Nat} {h₀ : Heap} {L : Addr} {A : Around} (S : Sit w n h₀ L A) (h : Nat.ble a n = true) : Sit w (0 + a) h₀ L A := Sit.less S (by rw [Nat.zero_add]; exact Nat.le_of_ble_eq_true h)
local macro_rules | `(tactic| walk_at "xS") => pure (κex (κap `Sit.lessL [κqb, κqd]))
abbrev en (w : World) (x : Str) (k : Tok) (v : Value) : DictEntry := ⟨PyData.keyHash w.params x, .str x k, v⟩
inductive ClassesAt (w : World) (ro : List (Addr × Obj)) (c : Addr) : Prop
  | mk : ∀ (dc bl nl : Addr) (k1 k2 k3 t1 t2 t3 t4 u1 u2 u3 u4 v : Tok) (n1 n2 n3 : Nat), ((c, instObj 727 dc) ∈ ro) → ((dc, dictOf [en w (Str.ofString "bounds") k1 (.ref bl), en w (Str.ofString "numbers") k2 (.ref nl), en w (Str.ofString "count") k3 (.int 3 v)] n1) ∈ ro) → ((bl, W.listOf #[.int 0 t1, .int 97 t2, .int 98 t3, .int 99 t4] n2) ∈ ro) → ((nl, W.listOf #[.int 0 u1, .int 1 u2, .int 2 u3, .int 0 u4] n3) ∈ ro) → ClassesAt w ro c
inductive CharAt (w : World) (ro : List (Addr × Obj)) (x : Addr) (code : Int) : Prop
  | mk : ∀ (d s p : Addr) (k1 t1 t2 : Tok) (n1 : Nat), ((x, instObj 651 d) ∈ ro) → ((d, dictOf [en w (Str.ofString "spans") k1 (.ref s)] n1) ∈ ro) → ((s, ({ cls := .type "tuple", data := .seq #[.ref p] } : Obj)) ∈ ro) → ((p, ({ cls := .type "tuple", data := .seq #[.int code t1, .int code t2] } : Obj)) ∈ ro) → CharAt w ro x code
theorem under_make (C : Addr) (vals : List Value) (dp un : Nat) (gd : Option (List Code)) (fr : Option (List Env)) : Around.under { handled := none, depth := dp, frames := fr, guards := gd, units := un } (.builtin "type.__call__" ⟨.ref C :: vals, []⟩) = { handled := none, depth := dp + 1, frames := fr, guards := gd, units := un + 1 } := by
  unfold Around.under
  rfl
theorem enterI {w : World} {k : Nat} {A : Around} {s : Shared} {h₀ : Heap} {L : Addr} {m : Str → Option Value} {news : List (Addr × Obj)} {Q E : Value → Shared → Prop}
    {name qual : Str} {params : Arguments} {body : List Stmt} {scope : Scope} {dV kV doc pm cdv ct oc : Value} {an od : Option Addr} {osl : Array (Option Value)} {f C : Addr} {args : List Value} (binds : Value → List (Str × Value))
    (S : Sit w (k + 2) h₀ L A) (F : Fr h₀ L s.heap m) (N : News h₀ L s.heap news)
    (hm : makesIn (KM w.params) C = true) (hi : findIn (KM w.params) (.ref C) "__init__" = some (some (.ref f))) (hfn : isFn (KM w.params) (.ref f) = true)
    (ho : List.lookup f (KM w.params) = some ⟨oc, od, .func (fnOf name qual params body scope dV kV doc pm an cdv ct), osl⟩) (hcd : codeIn (KM w.params) cdv qual = true)
    (hbind : ∀ (x : Addr) (s' : Shared), (KM w.params).In s'.heap → BindsTo s' (fnOf name qual params body scope dV kV doc pm an cdv ct) ⟨.ref x :: args, []⟩ (binds (.ref x))) (hloc : ∀ x, ∀ y ∈ binds (.ref x), scope.names.lookup y.1 = some .local)
    (hco : scope.isCoroutine = false) (hgen : scope.isGenerator = false) (hk : scope.kind = .function) (hcell : ∀ x ∈ scope.names, x.2 ≠ .cell)
    (h : ∀ (x dx : Addr) (dp un : Nat) (gd : Option (List Code)) (outer : List Env) (A₀ : Around) (base : Heap) (loose : List Str) (mean : ExcName → Option Value) (mg mb : Str → Option Value) (g : Heap) (L' : Addr) (h₁ : Heap) (tk : Nat),
      Sit w k g L' { handled := none, depth := dp, frames := some (envOf qual scope L' f cdv :: outer), guards := gd, units := un } →
      Below A₀ base outer g → Fr g L' h₁ (fun y => (binds (.ref x)).reverse.lookup y) → (KM w.params).In g → News g L' h₁ ((x, instObj C dx) :: (dx, dictOf [] 0) :: news) → (∀ p ∈ (x, instObj C dx) :: (dx, dictOf [] 0) :: news, p.1 < L') → (∀ p ∈ news, p.1 < dx) → dx < x → Top qV loose mean mg mb g → dp + k < recursionLimit → un + 8 * k < cLine → h₀.StaysIn g →
      wpAny (MD w) { handled := none, depth := dp, frames := some (envOf qual scope L' f cdv :: outer), guards := gd, units := un } (execs body (envOf qual scope L' f cdv))
        (fun fl s' => EndK h₀ L m g (fun v s' => v = .none ∧ Q (.ref x) s') (match fl with | .ret v => v | _ => .none) s') (fun _ _ => False) { s with heap := h₁, toks := tk }) :
    wpAny (MD w) A (call (.ref C) args) Q E s := by
  obtain ⟨dp, un, gd, env, outer, A₀, base, loose, mean, mg, mb, rfl, B, X, T, hf, hke, hd, hu⟩ := S
  refine call_cls F X N hm hi hfn fun x dx h' F1 N1 l1 l2 => ?_
  rw [under_make]
  refine callX_plain (cl := []) (binds := binds (.ref x)) B F1 N1 T.nolimit rfl hf hke ((X.keeps F1.keep) _ _ ho) rfl (codeRec_of (X.keeps F1.keep) hcd) (by show dp + 1 < _; lia) (hbind x _ (X.keeps F1.keep)) (hloc x) (fun g L' h₁ FG F' N' B' st lt => ?_) hcell hco hgen hk
  have hk' : (envOf qual scope L' f cdv).scope.kind = .function := hk
  have := h x dx (dp + 1 + 1) (un + 1 + 3) gd (env :: outer) _ base loose mean mg mb g L' h₁ (s.toks + (binds (.ref x)).length) (Sit.of B' (X.keeps st) (T.keeps st) rfl hk' (by lia) (by lia)) B' F' (X.keeps st) N' lt l1 l2 (T.keeps st) (by lia) (by lia) st
  refine wpAny_mono this (fun fl s' hl => ?_) (fun _ _ e => e.elim)
  exact hl
/-- the end of a call that was walked with a part of the ledger alone: the other part stands -/
def EndF (h₀ : Heap) (L : Addr) (m : Str → Option Value) (g : Heap) (ro : List (Addr × Obj)) (Q : Value → Shared → Prop) (v : Value) (s' : Shared) : Prop :=
  ∃ L'' m' news', Fr g L'' s'.heap m' ∧ News g L'' s'.heap news' ∧ (Fr h₀ L s'.heap m → News h₀ L s'.heap (news' ++ ro) → (∀ p ∈ ro, ∀ q ∈ news', q.1 ≠ p.1) → Q v s')
theorem EndF.of {h₀ g : Heap} {L L' : Addr} {m m' : Str → Option Value} {news' ro : List (Addr × Obj)} {Q : Value → Shared → Prop} {v : Value} {s' : Shared} (F' : Fr g L' s'.heap m') (N' : News g L' s'.heap news')
    (k : Fr h₀ L s'.heap m → News h₀ L s'.heap (news' ++ ro) → (∀ p ∈ ro, ∀ q ∈ news', q.1 ≠ p.1) → Q v s') : EndF h₀ L m g ro Q v s' := ⟨L', m', news', F', N', k⟩
theorem ro_stands {h₀ g h' : Heap} {L L' : Addr} {m' : Str → Option Value} {h : Heap} {lit ro news' : List (Addr × Obj)} (N : News h₀ L h (lit ++ ro)) (hoff : ∀ p ∈ ro, p.1 ∉ lit.map (·.1)) (hg : ∀ b o, h.get? b = some o → b ∉ lit.map (·.1) → g.get? b = some o)
    (F' : Fr g L' h' m') (N' : News g L' h' news') : News h₀ L h' ro ∧ ∀ p ∈ ro, ∀ q ∈ news', q.1 ≠ p.1 := by
  refine ⟨fun p hp => ?_, fun p hp q hq e => ?_⟩
  · have z := N p (List.mem_append.mpr (.inr hp))
    exact ⟨F'.keep _ _ (hg _ _ z.1 (hoff p hp)), z.2⟩
  · have z := N p (List.mem_append.mpr (.inr hp))
    have y := (N' q hq).2.2
    rw [e, hg _ _ z.1 (hoff p hp)] at y
    cases y
theorem coreF {w : World} {k dp un : Nat} {gd : Option (List Code)} {env : Env} {outer : List Env} {A₀ : Around} {base : Heap} {loose : List Str} {mean : ExcName → Option Value} {mg mb : Str → Option Value} {s : Shared} {h₀ : Heap} {L : Addr} {m : Str → Option Value} {R : Result → Shared → Prop}
    {name qual : Str} {params : Arguments} {body : List Stmt} {scope : Scope} {dV kV doc pm cdv ct oc : Value} {an od : Option Addr} {osl : Array (Option Value)} {f : Addr} {args : List Value} (lit ro : List (Addr × Obj)) (binds : List (Str × Value))
    (B : Below A₀ base outer h₀) (X : (KM w.params).In h₀) (T : Top qV loose mean mg mb h₀) (hf : env.frame = some L) (hke : env.scope.kind = .function) (hd : dp + (k + 1) < recursionLimit) (hu : un + 8 * (k + 1) < cLine)
    (F : Fr h₀ L s.heap m) (N : News h₀ L s.heap (lit ++ ro)) (hoff : ∀ p ∈ ro, p.1 ∉ lit.map (·.1))
    (ho : List.lookup f (KM w.params) = some ⟨oc, od, .func (fnOf name qual params body scope dV kV doc pm an cdv ct), osl⟩) (hcd : codeIn (KM w.params) cdv qual = true)
    (hbind : ∀ s' : Shared, (KM w.params).In s'.heap → BindsTo s' (fnOf name qual params body scope dV kV doc pm an cdv ct) ⟨args, []⟩ binds) (hloc : ∀ y ∈ binds, scope.names.lookup y.1 = some .local)
    (hco : scope.isCoroutine = false) (hgen : scope.isGenerator = false) (hk : scope.kind = .function) (hcell : ∀ x ∈ scope.names, x.2 ≠ .cell)
    (h : ∀ (dp un : Nat) (gd : Option (List Code)) (outer : List Env) (A₀ : Around) (base : Heap) (loose : List Str) (mean : ExcName → Option Value) (mg mb : Str → Option Value) (g : Heap) (L' : Addr) (h₁ : Heap) (tk : Nat),
      Sit w k g L' { handled := none, depth := dp, frames := some (envOf qual scope L' f cdv :: outer), guards := gd, units := un } →
      Below A₀ base outer g → Fr g L' h₁ (fun y => binds.reverse.lookup y) → (KM w.params).In g → News g L' h₁ lit → (∀ p ∈ lit, p.1 < L') → Top qV loose mean mg mb g → dp + k < recursionLimit → un + 8 * k < cLine → h₀.StaysIn g →
      wpAny (MD w) { handled := none, depth := dp, frames := some (envOf qual scope L' f cdv :: outer), guards := gd, units := un } (execs body (envOf qual scope L' f cdv))
        (fun fl s' => EndF h₀ L m g ro (fun v s' => R (.ok (.ret v)) s') (match fl with | .ret v => v | _ => .none) s') (fun _ _ => False) { s with heap := h₁, toks := tk }) :
    codeAny (MD w) { handled := none, depth := dp, frames := some (env :: outer), guards := gd, units := un } (.call (.ref f) ⟨args, []⟩) R s := by
  have N1 : News h₀ L s.heap lit := fun p hp => N p (List.mem_append.mpr (.inl hp))
  have hroom : dp < recursionLimit := by lia
  refine codeAny_call_def (fd := fnX name qual params body scope [] dV kV doc pm an cdv ct) (body := body) (binds := binds) hroom ((X.keeps F.keep) _ _ ho) rfl (T.nolimit.keeps F.keep) (codeRec_of (X.keeps F.keep) hcd) rfl (hbind _ (X.keeps F.keep)) hcell hloc (fun h₁ hns hk₁ => ?_) hco hgen hk
  obtain ⟨FG, BG, st, _⟩ := groundX (A := { handled := none, depth := dp, frames := some (env :: outer), guards := gd, units := un }) (R := fun _ _ => True) B F N1 rfl hf hke
  have hk' : (envOf qual scope s.heap.objs.size f cdv).scope.kind = .function := hk
  have F1 : Fr (hideAll s.heap (lit.map (·.1))) s.heap.objs.size h₁ (fun y => binds.reverse.lookup y) := ⟨hns, fun b o e => hk₁ b o (of_hideAll _ e), Nat.le_of_eq (hideAll_size _ _)⟩
  have N2 : News (hideAll s.heap (lit.map (·.1))) s.heap.objs.size h₁ lit := fun p hp => ⟨hk₁ _ _ (N1 p hp).1, Nat.ne_of_lt (Heap.lt_size (N1 p hp).1), hideAll_none _ (List.mem_map_of_mem hp)⟩
  have := h (dp + 1) (un + 3) gd (env :: outer) _ base loose mean mg mb (hideAll s.heap (lit.map (·.1))) s.heap.objs.size h₁ (s.toks + binds.length) (Sit.of BG (X.keeps st) (T.keeps st) rfl hk' (by lia) (by lia)) BG F1 (X.keeps st) N2 (fun p hp => Heap.lt_size (N1 p hp).1) (T.keeps st) (by lia) (by lia) st
  refine wpAny_mono this (fun fl s' hl => ?_) (fun _ _ e => e.elim)
  obtain ⟨L'', m', news', F', N', kk⟩ := hl
  have rs := ro_stands N hoff (fun b o e q => hideAll_get _ e q) F' N'
  have fin : ∀ v, (Fr h₀ L s'.heap m → News h₀ L s'.heap (news' ++ ro) → (∀ p ∈ ro, ∀ q ∈ news', q.1 ≠ p.1) → R (.ok (.ret v)) s') → R (.ok (.ret v)) s' := fun v kk =>
    (groundX (A := { handled := none, depth := dp, frames := some (env :: outer), guards := gd, units := un }) (R := R) B F N1 rfl hf hke).2.2.2 v s' ⟨L'', m', news', F', N', fun kF kN => kk kF (fun p hp => (List.mem_append.mp hp).elim (kN p) (rs.1 p)) rs.2⟩
  cases fl
  all_goals exact fin _ kk
theorem enterF {w : World} {k : Nat} {A : Around} {s : Shared} {h₀ : Heap} {L : Addr} {m : Str → Option Value} {Q E : Value → Shared → Prop}
    {name qual : Str} {params : Arguments} {body : List Stmt} {scope : Scope} {dV kV doc pm cdv ct oc : Value} {an od : Option Addr} {osl : Array (Option Value)} {f : Addr} {args : List Value} (lit ro : List (Addr × Obj)) (binds : List (Str × Value))
    (S : Sit w (k + 1) h₀ L A) (F : Fr h₀ L s.heap m) (N : News h₀ L s.heap (lit ++ ro)) (hoff : ∀ p ∈ ro, p.1 ∉ lit.map (·.1))
    (ho : List.lookup f (KM w.params) = some ⟨oc, od, .func (fnOf name qual params body scope dV kV doc pm an cdv ct), osl⟩) (hcd : codeIn (KM w.params) cdv qual = true)
    (hbind : ∀ s' : Shared, (KM w.params).In s'.heap → BindsTo s' (fnOf name qual params body scope dV kV doc pm an cdv ct) ⟨args, []⟩ binds) (hloc : ∀ y ∈ binds, scope.names.lookup y.1 = some .local)
    (hco : scope.isCoroutine = false) (hgen : scope.isGenerator = false) (hk : scope.kind = .function) (hcell : ∀ x ∈ scope.names, x.2 ≠ .cell)
    (h : ∀ (dp un : Nat) (gd : Option (List Code)) (outer : List Env) (A₀ : Around) (base : Heap) (loose : List Str) (mean : ExcName → Option Value) (mg mb : Str → Option Value) (g : Heap) (L' : Addr) (h₁ : Heap) (tk : Nat),
      Sit w k g L' { handled := none, depth := dp, frames := some (envOf qual scope L' f cdv :: outer), guards := gd, units := un } →
      Below A₀ base outer g → Fr g L' h₁ (fun y => binds.reverse.lookup y) → (KM w.params).In g → News g L' h₁ lit → (∀ p ∈ lit, p.1 < L') → Top qV loose mean mg mb g → dp + k < recursionLimit → un + 8 * k < cLine → h₀.StaysIn g →
      wpAny (MD w) { handled := none, depth := dp, frames := some (envOf qual scope L' f cdv :: outer), guards := gd, units := un } (execs body (envOf qual scope L' f cdv))
        (fun fl s' => EndF h₀ L m g ro Q (match fl with | .ret v => v | _ => .none) s') (fun _ _ => False) { s with heap := h₁, toks := tk }) :
    wpAny (MD w) A (call (.ref f) args) Q E s := by
  obtain ⟨dp, un, gd, env, outer, A₀, base, loose, mean, mg, mb, rfl, B, X, T, hf, hke, hd, hu⟩ := S
  exact wpAny_call (coreF lit ro binds B X T hf hke hd hu F N hoff ho hcd hbind hloc hco hgen hk hcell h)
theorem enterIF {w : World} {k : Nat} {A : Around} {s : Shared} {h₀ : Heap} {L : Addr} {m : Str → Option Value} {Q E : Value → Shared → Prop}
    {name qual : Str} {params : Arguments} {body : List Stmt} {scope : Scope} {dV kV doc pm cdv ct oc : Value} {an od : Option Addr} {osl : Array (Option Value)} {f C : Addr} {args : List Value} (lit ro : List (Addr × Obj)) (binds : Value → List (Str × Value))
    (S : Sit w (k + 2) h₀ L A) (F : Fr h₀ L s.heap m) (N : News h₀ L s.heap (lit ++ ro)) (hoff : ∀ p ∈ ro, p.1 ∉ lit.map (·.1))
    (hm : makesIn (KM w.params) C = true) (hi : findIn (KM w.params) (.ref C) "__init__" = some (some (.ref f))) (hfn : isFn (KM w.params) (.ref f) = true)
    (ho : List.lookup f (KM w.params) = some ⟨oc, od, .func (fnOf name qual params body scope dV kV doc pm an cdv ct), osl⟩) (hcd : codeIn (KM w.params) cdv qual = true)
    (hbind : ∀ (x : Addr) (s' : Shared), (KM w.params).In s'.heap → BindsTo s' (fnOf name qual params body scope dV kV doc pm an cdv ct) ⟨.ref x :: args, []⟩ (binds (.ref x))) (hloc : ∀ x, ∀ y ∈ binds (.ref x), scope.names.lookup y.1 = some .local)
    (hco : scope.isCoroutine = false) (hgen : scope.isGenerator = false) (hk : scope.kind = .function) (hcell : ∀ x ∈ scope.names, x.2 ≠ .cell)
    (h : ∀ (x dx : Addr), (∀ p ∈ lit ++ ro, p.1 < dx) → dx < x → ∀ (dp un : Nat) (gd : Option (List Code)) (outer : List Env) (A₀ : Around) (base : Heap) (loose : List Str) (mean : ExcName → Option Value) (mg mb : Str → Option Value) (g : Heap) (L' : Addr) (h₁ : Heap) (tk : Nat),
      Sit w k g L' { handled := none, depth := dp, frames := some (envOf qual scope L' f cdv :: outer), guards := gd, units := un } →
      Below A₀ base outer g → Fr g L' h₁ (fun y => (binds (.ref x)).reverse.lookup y) → (KM w.params).In g → News g L' h₁ ((x, instObj C dx) :: (dx, dictOf [] 0) :: lit) → (∀ p ∈ (x, instObj C dx) :: (dx, dictOf [] 0) :: lit, p.1 < L') → Top qV loose mean mg mb g → dp + k < recursionLimit → un + 8 * k < cLine → h₀.StaysIn g →
      wpAny (MD w) { handled := none, depth := dp, frames := some (envOf qual scope L' f cdv :: outer), guards := gd, units := un } (execs body (envOf qual scope L' f cdv))
        (fun fl s' => EndF h₀ L m g ro (fun v s' => v = .none ∧ Q (.ref x) s') (match fl with | .ret v => v | _ => .none) s') (fun _ _ => False) { s with heap := h₁, toks := tk }) :
    wpAny (MD w) A (call (.ref C) args) Q E s := by
  obtain ⟨dp, un, gd, env, outer, A₀, base, loose, mean, mg, mb, rfl, B, X, T, hf, hke, hd, hu⟩ := S
  refine call_cls F X N hm hi hfn fun x dx h' F1 N1 l1 l2 => ?_
  rw [under_make]
  have l2' : @LT.lt Nat _ dx x := l2
  refine coreF (k := k) ((x, instObj C dx) :: (dx, dictOf [] 0) :: lit) ro (binds (.ref x)) B X T hf hke (by lia) (by lia) F1 N1 (fun p hp => ?_) ho hcd (hbind x) (hloc x) hco hgen hk hcell (h x dx l1 l2)
  have l3 : @LT.lt Nat _ p.1 dx := l1 p (List.mem_append.mpr (.inr hp))
  simp only [List.map_cons, List.mem_cons, not_or]
  exact ⟨Nat.ne_of_lt (Nat.lt_trans l3 l2'), Nat.ne_of_lt l3, hoff p hp⟩
theorem room_of {dp k : Nat} (h : dp + k < recursionLimit) : dp < recursionLimit := Nat.lt_of_le_of_lt (Nat.le_add_right _ _) h
section
variable {prog : Program} {w : World} {A : Around} {E : Value → Shared → Prop} {s : Shared}
theorem zip_small (vs : List Value) (h1 : vs.length < 2) : (vs.toArray.zip vs.toArray).map (·.2) = vs.toArray := by
  rcases vs with _ | ⟨x, _ | ⟨y, r⟩⟩
  · simp
  · simp
  · exact absurd h1 (Nat.not_lt.mpr (Nat.le_add_left 2 _))
/-- sort of a list of one or none asks nothing -/
theorem sort_small {a : Addr} {vs : List Value} {n : Nat} {P : Fin → Shared → Prop} (ho : s.heap.get? a = some (seqObj "list" vs.toArray n)) (h1 : vs.length < 2)
    (h : P (.done (.ret .none)) { s with heap := sortedHeap s.heap a vs vs.toArray }) : wpAny (model prog w) A (Builtin.«list.sort» ⟨[.ref a], []⟩) P E s := by
  rw [list_sort_plain]
  have ha : a < s.heap.objs.size := Heap.lt_size ho
  refine wpAny_bind (listItems_at ho rfl ?_)
  refine wpAny_bind (listUpdate_at ho rfl ?_)
  obtain ⟨e1, ho1⟩ : ∃ e1, (s.heap.update a (Obj.mapSeq fun _ => #[])).get? a = some (seqObj "list" #[] e1) := ⟨_, get?_update_seq ho (fun _ => #[])⟩
  refine wpAny_bind (seqEpoch_at ho1 rfl ?_)
  refine wpAny_bind (wpAny_newTuple ?_ (by rw [PySem.sizeLine_eq]; simp; lia))
  refine wpAny_bind (wpAny_newList ?_)
  refine wpAny_holding ?_
  have ho6 : (((s.heap.update a (Obj.mapSeq fun _ => #[])).push (seqObj "tuple" vs.toArray 0)).push (seqObj "list" #[] 0)).get? a = some (seqObj "list" #[] e1) := by
    rw [Heap.get?_push_ne _ _ _ (by rw [size_push', Heap.size_update]; exact Nat.ne_of_lt (Nat.lt_succ_of_lt ha)), Heap.get?_push_ne _ _ _ (by rw [Heap.size_update]; exact Nat.ne_of_lt ha)]
    exact ho1
  show wpAny (model prog w) A _ P E { s with heap := ((s.heap.update a (Obj.mapSeq fun _ => #[])).push (seqObj "tuple" vs.toArray 0)).push (seqObj "list" #[] 0) }
  (try dsimp only)
  have h2 : vs.toArray.size < 2 := by simpa using h1
  rw [if_pos h2, if_pos h2]
  refine wpAny_bind (wpAny_pure ?_)
  rw [StateT.run_pure]
  refine wpAny_bind (wpAny_pure ?_)
  (try dsimp only)
  have e3 : (arrOf (SortSt.mk' general' (vs.toArray.zip vs.toArray) #[] 7 none)).map (·.2) = vs.toArray := by
    show (vs.toArray.zip vs.toArray).map (·.2) = vs.toArray
    exact zip_small vs h1
  refine wpAny_bind (seqEpoch_at ho6 rfl ?_)
  refine wpAny_bind (listUpdate_at ho6 rfl ?_ (hsz2 := by rw [e3, PySem.sizeLine_eq]; simp; lia))
  simp only [bne_self_eq_false, Bool.false_eq_true, if_false]
  refine wpAny_pure ?_
  rw [e3]
  exact h
theorem sorted_small {h₀ : Heap} {L : Addr} {m : Str → Option Value} {news : List (Addr × Obj)} {l : Addr} {vs : List Value} {Q : Value → Shared → Prop} (F : Fr h₀ L s.heap m) (N : News h₀ L s.heap news) (hl : s.heap.IsList l vs.toArray) (h1 : vs.length < 2)
    (h : ∀ (D : Addr) (h' : Heap) (e : Nat), Fr h₀ L h' m → News h₀ L h' ((D, W.listOf vs.toArray e) :: news) → (∀ p ∈ news, p.1 < D) → Q (.ref D) { s with heap := h' }) :
    wpAny (model prog w) A (call (.builtin "sorted") [.ref l]) Q E s := by
  refine Calls.call_function_entry kind_sorted plain_sorted entry_sorted (args_sorted1 _) ?_
  unfold Builtin.«sorted»
  refine wpAny_bind (m := checkCount "sorted" 1 1 _) (wpAny_pure ?_)
  refine wpAny_bind (collect_list hl ?_ (by rw [PySem.sizeLine_eq]; lia))
  refine wpAny_bind (wpAny_newList ?_ (by rw [PySem.sizeLine_eq]; lia))
  have hsz : ((s.heap.push (seqObj "list" #[] 0)).update s.heap.objs.size (Obj.mapSeq (· ++ vs.toArray))).objs.size = s.heap.objs.size + 1 := by
    rw [Heap.size_update, size_push']
  have hoL : (((s.heap.push (seqObj "list" #[] 0)).update s.heap.objs.size (Obj.mapSeq (· ++ vs.toArray))).push (seqObj "list" vs.toArray 0)).get? (s.heap.objs.size + 1) = some (seqObj "list" vs.toArray 0) := by
    rw [← hsz]; exact Heap.get?_push_size _ rfl
  show wpAny _ _ _ _ _ { s with heap := ((s.heap.push (seqObj "list" #[] 0)).update s.heap.objs.size (Obj.mapSeq (· ++ vs.toArray))).push (seqObj "list" vs.toArray 0) }
  rw [hsz]
  refine wpAny_bind (wpAny_holding (wpAny_call_entry slot_list_sort ⟨_, hoL, rfl⟩ entry_list_sort (sort_small hoL h1 ⟨_, rfl, ?_⟩) (args_list_sort _)))
  obtain ⟨e, he⟩ := sortedAll_at s.heap vs vs.toArray
  exact wpAny_pure ⟨_, rfl, h _ _ e (F.kept fun _ _ => sortedAll_old) (N.kept_cons F (fun _ _ => sortedAll_old) (Nat.le_succ _) he) fun p hp => Nat.lt_succ_of_lt (Heap.lt_size (N p hp).1)⟩
end
local macro_rules | `(tactic| walk_at "call builtin:sorted") => pure (κtC (κap `call [κgb, (κlst [κgr])]) (κtL (κtA `sorted_small [κqa, κqa, (κbyT (κta `PySem.W.tacticKso_list "kso_list" [])), (κap `Nat.lt_of_succ_le [(κap `Nat.le_of_ble_eq_true [(κi `rfl)])]), κq0])))
section
local macro_rules | `(tactic| k_room) => pure (κpa [(κtr [(κsmo [`depth_under_make, `depth_under_kw, `depth_in1, `depth_deeper] none)]), κli])
local macro_rules | `(tactic| walk_at "exec For") => pure (κwa "xF")
theorem made_a {w : World} {k : Nat} {h₀ : Heap} {L : Addr} {A : Around} {m : Str → Option Value} {ro : List (Addr × Obj)} {s : Shared} {pr tp : Addr} {n1 : Nat} {t1 t2 : Tok} {Q E : Value → Shared → Prop}
    (S : Sit w (k + 8) h₀ L A) (F : Fr h₀ L s.heap m) (N : News h₀ L s.heap ((pr, W.listOf #[.ref tp] n1) :: (tp, { cls := .type "tuple", data := .seq #[.int 97 t1, .int 97 t2] }) :: ro)) (of1 : ∀ p ∈ ro, p.1 ≠ pr) (of2 : ∀ p ∈ ro, p.1 ≠ tp) (npt : @Ne Nat pr tp)
    (ret : ∀ x h' tk' nw, Fr h₀ L h' m → News h₀ L h' (nw ++ ro) → (∀ p ∈ ro, ∀ q ∈ nw, q.1 ≠ p.1) → CharAt w nw x 97 → Q (.ref x) { s with heap := h', toks := tk' }) :
    wpAny (MD w) A (call (.ref 554) [.ref pr]) Q E s := by
  have hoff : ∀ p ∈ ro, p.1 ∉ ([(pr, W.listOf #[.ref tp] n1), (tp, { cls := .type "tuple", data := .seq #[.int 97 t1, .int 97 t2] })] : List (Addr × Obj)).map (·.1) := fun p hp => by
    simp only [List.map_cons, List.map_nil, List.mem_cons, List.not_mem_nil, or_false, not_or]
    exact ⟨of1 p hp, of2 p hp⟩
  w_strict (
    refine fillK (w := w) ?_; k_fill; intro _ _
    k_dflt (refine enterF [(pr, W.listOf #[.ref tp] n1), (tp, { cls := .type "tuple", data := .seq #[.int 97 t1, .int 97 t2] })] ro [(Str.ofString "pairs", _)] S F N hoff (by k_is) (by k_is) (fun _ _ => BindsTo.of_eq rfl) (locs rfl) rfl rfl rfl (by decide) ?_)
    clear S F N
    intro dp un gd outer A₀ base loose mean mg mb g L' h₁ tk S B F X N lt T hd hu st
    k_fold
    (try k_lt lt)
    k_steps)
  refine EndF.of (by assumption) (by assumption) ?_
  intro zF zN zo
  exact ret _ _ _ _ zF zN zo ⟨_, _, _, _, _, _, _, .head _, .tail _ (.head _), .tail _ (.tail _ (.head _)), .tail _ (.tail _ (.tail _ (.head _)))⟩
theorem made_b {w : World} {k : Nat} {h₀ : Heap} {L : Addr} {A : Around} {m : Str → Option Value} {ro : List (Addr × Obj)} {s : Shared} {pr tp : Addr} {n1 : Nat} {t1 t2 : Tok} {Q E : Value → Shared → Prop}
    (S : Sit w (k + 8) h₀ L A) (F : Fr h₀ L s.heap m) (N : News h₀ L s.heap ((pr, W.listOf #[.ref tp] n1) :: (tp, { cls := .type "tuple", data := .seq #[.int 98 t1, .int 98 t2] }) :: ro)) (of1 : ∀ p ∈ ro, p.1 ≠ pr) (of2 : ∀ p ∈ ro, p.1 ≠ tp) (npt : @Ne Nat pr tp)
    (ret : ∀ x h' tk' nw, Fr h₀ L h' m → News h₀ L h' (nw ++ ro) → (∀ p ∈ ro, ∀ q ∈ nw, q.1 ≠ p.1) → CharAt w nw x 98 → Q (.ref x) { s with heap := h', toks := tk' }) :
    wpAny (MD w) A (call (.ref 554) [.ref pr]) Q E s := by
  have hoff : ∀ p ∈ ro, p.1 ∉ ([(pr, W.listOf #[.ref tp] n1), (tp, { cls := .type "tuple", data := .seq #[.int 98 t1, .int 98 t2] })] : List (Addr × Obj)).map (·.1) := fun p hp => by
    simp only [List.map_cons, List.map_nil, List.mem_cons, List.not_mem_nil, or_false, not_or]
    exact ⟨of1 p hp, of2 p hp⟩
  w_strict (
    refine fillK (w := w) ?_; k_fill; intro _ _
    k_dflt (refine enterF [(pr, W.listOf #[.ref tp] n1), (tp, { cls := .type "tuple", data := .seq #[.int 98 t1, .int 98 t2] })] ro [(Str.ofString "pairs", _)] S F N hoff (by k_is) (by k_is) (fun _ _ => BindsTo.of_eq rfl) (locs rfl) rfl rfl rfl (by decide) ?_)
    clear S F N
    intro dp un gd outer A₀ base loose mean mg mb g L' h₁ tk S B F X N lt T hd hu st
    k_fold
    (try k_lt lt)
    k_steps)
  refine EndF.of (by assumption) (by assumption) ?_
  intro zF zN zo
  exact ret _ _ _ _ zF zN zo ⟨_, _, _, _, _, _, _, .head _, .tail _ (.head _), .tail _ (.tail _ (.head _)), .tail _ (.tail _ (.tail _ (.head _)))⟩
end
theorem own_seti : Manifest.owners.lookup (String.ofList ['r', 'o', 't', 'a', 'r', 'e', 't', 'i', '_', 't', 'e', 's'].reverse) = some Manifest.sig_set_iterator := by kernel_rfl
theorem slot_seti : Slot "set_iterator" "__next__" "set_iterator.__next__" :=
  .of (owner := "set_iterator") (n := "__next__") (by rw [typeLookup_type, builtinLookup_eq_fast]; kernel_rfl) (by decide +kernel) (by decide +kernel) (by decide +kernel)
    (by first | exact .inl (by decide +kernel) | exact .inr (by decide +kernel)) (by rw [isSubtype_type]; kernel_rfl)
theorem entry_seti : entryFor table "set_iterator.__next__" = some Builtin.«set_iterator.__next__» := entryFor_of_tree (by kernel_rfl)
theorem args_seti (a : Value) : argsOk "set_iterator.__next__" ⟨[a], []⟩ := by
  unfold argsOk; rw [signature?_of (id := "set_iterator.__next__") (n := ['_', '_', 't', 'x', 'e', 'n', '_', '_']) (o := ['r', 'o', 't', 'a', 'r', 'e', 't', 'i', '_', 't', 'e', 's']) (by kernel_rfl) own_seti]; kernel_rfl
theorem entry_setiter : entryFor table "set.__iter__" = some Builtin.«frozenset.__iter__» :=
  entryFor_alias (id' := "frozenset.__iter__") (by kernel_rfl) (by first | rfl | decide +kernel) (by decide +kernel) (by kernel_rfl)
theorem slot_seti_iter : Slot "set_iterator" "__iter__" "set_iterator.__iter__" :=
  .of (owner := "set_iterator") (n := "__iter__") (by rw [typeLookup_type, builtinLookup_eq_fast]; kernel_rfl) (by decide +kernel) (by decide +kernel) (by decide +kernel)
    (by first | exact .inl (by decide +kernel) | exact .inr (by decide +kernel)) (by rw [isSubtype_type]; kernel_rfl)
theorem entry_seti_iter : entryFor table "set_iterator.__iter__" = some Builtin.«dict_keyiterator.__iter__» :=
  entryFor_alias (id' := "dict_keyiterator.__iter__") (by kernel_rfl) (by first | rfl | decide +kernel) (by decide +kernel) (by kernel_rfl)
theorem args_seti_iter (a : Value) : argsOk "set_iterator.__iter__" ⟨[a], []⟩ := by
  unfold argsOk; rw [signature?_of (id := "set_iterator.__iter__") (n := ['_', '_', 'r', 'e', 't', 'i', '_', '_']) (o := ['r', 'o', 't', 'a', 'r', 'e', 't', 'i', '_', 't', 'e', 's']) (by kernel_rfl) own_seti]; kernel_rfl
abbrev eset (led : Bool) : Obj := { cls := .type "set", dict := none, data := .set #[] 0 (.fresh 0 0 led) }
abbrev esetI (r : Addr) : Obj := { cls := .type "set_iterator", data := .fields #[.int 0 0, .int 0 0, .ref r, .int 0 0, .int 0 0] }
section
variable {prog : Program} {w : World} {A : Around} {E : Value → Shared → Prop} {s : Shared}
theorem seti_end {it r : Addr} {o : Obj} {led : Bool} {Q : Option Value → Shared → Prop} (hh : A.handled = none) (ho : s.heap.get? it = some o) (hc : o.cls = .type "set_iterator") (hd : o.data = .fields #[.int 0 0, .int 0 0, .ref r, .int 0 0, .int 0 0]) (hr : s.heap.get? r = some (eset led))
    (hQ : ∀ h', Heap.ExtBut it s.heap h' → Q none { s with heap := h' }) : wpAny (model prog w) A (pyNext (.ref it)) Q E s := by
  have hT : s.TypeIs (.ref it) "set_iterator" := ⟨o, ho, hc⟩
  unfold pyNext
  refine wpAny_bind (wpAny_attempt (wpAny_callSpecial?_slot (name := Str.ofString "__next__") hT slot_seti
    (wpAny_call_entry slot_seti hT entry_seti ?_ (args_seti _))))
  unfold Builtin.«set_iterator.__next__»
  refine wpAny_bind (wpAny_pure ?_)
  refine wpAny_bind (wpAny_fieldsOf ho hd ?_)
  show wpAny _ _ (setEntries r >>= _) _ _ s
  refine wpAny_bind (wpAny_setEntries_of hr rfl rfl ?_)
  rw [if_neg (by simp)]
  show wpAny _ _ (setNext r (0 : Int).toNat (0 : Int).toNat (0 : Int).toNat >>= _) _ _ s
  have key : ∀ {Q₁ : Option (Value × Nat) → Shared → Prop} {E₁}, Q₁ none s → wpAny (model prog w) A.in1 (setNext r (0 : Int).toNat (0 : Int).toNat (0 : Int).toNat) Q₁ E₁ s := by
    intro Q₁ E₁ h
    unfold setNext
    refine wpAny_bind (wpAny_setState_of hr rfl rfl ?_)
    unfold setsByText
    refine wpAny_bind (wpAny_bind (wpAny_askSetting (wpAny_pure ?_)))
    (try dsimp only)
    split
    · rename_i hb
      rw [if_neg (by simp)]
      refine wpAny_bind ?_
      unfold setWalk
      refine wpAny_bind (wpAny_setState_of hr rfl rfl ?_)
      unfold setsByText
      refine wpAny_bind (wpAny_bind (wpAny_askSetting (wpAny_pure ?_)))
      (try dsimp only)
      rw [if_pos hb]
      refine wpAny_bind (wpAny_askSetting (wpAny_pure ?_))
      exact wpAny_pure h
    · refine wpAny_ite_split (fun h => absurd h Bool.false_ne_true) (fun _ => ?_)
      refine wpAny_bind (wpAny_of_eq (a := ()) (by cases led <;> rfl) ?_)
      exact wpAny_pure h
  refine wpAny_bind (key ?_)
  show wpAny _ _ (setField (.ref it) 2 .none >>= _) _ _ s
  refine wpAny_bind (wpAny_setField ho hd (by simp) ?_)
  show wpAny _ _ (newExc (.type "StopIteration") [] >>= _) _ _ _
  refine wpAny_bind ?_
  simp only [newExc, newTuple]
  refine wpAny_bind (wpAny_newObj_type ?_ (by size_fits))
  refine wpAny_bind (m := firstArgMember _ _) (wpAny_of_eq (a := Value.none) (by first | rfl | (simp only [firstArgMember]; rfl)) ?_)
  refine wpAny_newObj_type ?_ (by size_fits)
  simp only [raiseNew]
  refine wpAny_bind (wpAny_handled ?_)
  rw [show A.in1.handled = none from hh]
  refine wpAny_bind (wpAny_pure (wpAny_throw ?_))
  refine wpAny_bind (wpAny_isInstance (T := "StopIteration") (b := true) ⟨_, Heap.get?_push_size _ rfl, rfl⟩ isSubtype_stop ?_)
  exact wpAny_pure (hQ _ (((Heap.SameBut.update ..).extBut.push _).push _))
theorem pyIter_eset {r : Addr} {led : Bool} {Q : Value → Shared → Prop} (hr : s.heap.get? r = some (eset led))
    (hQ : Q (.ref s.heap.objs.size) { s with heap := s.heap.push (esetI r) }) : wpAny (model prog w) A (pyIter (.ref r)) Q E s := by
  have hT : s.TypeIs (.ref r) "set" := ⟨_, hr, rfl⟩
  refine wpAny_pyIter_slot hT F.slot_set_iter (wpAny_call_entry F.slot_set_iter hT entry_setiter ?_ (F.args_set_iter_1 _))
  unfold Builtin.«frozenset.__iter__»
  refine wpAny_bind ?_
  have k0 : ∀ {Q₁ : Addr → Shared → Prop} {E₁}, Q₁ r s → wpAny (model prog w) A.in1 (Builtin.Frozenset.slot0 "__iter__" { pos := [Value.ref r] }) Q₁ E₁ s := by
    intro Q₁ E₁ h
    unfold Builtin.Frozenset.slot0
    refine wpAny_bind (wpAny_pure ?_)
    exact wpAny_pure h
  refine k0 ?_
  refine wpAny_bind ?_
  unfold Builtin.Frozenset.sizeOf
  refine wpAny_bind (wpAny_setEntries_of hr rfl rfl (wpAny_pure ?_))
  have k1 : ∀ {Q₁ : Bool → Shared → Prop} {E₁}, Q₁ false s → wpAny (model prog w) A.in1 (setDrawn r) Q₁ E₁ s := by
    intro Q₁ E₁ h
    unfold setDrawn
    refine wpAny_bind (wpAny_setState_of hr rfl rfl ?_)
    unfold setsByText
    refine wpAny_bind (wpAny_bind (wpAny_askSetting (wpAny_pure ?_)))
    (try dsimp only)
    refine wpAny_pure ?_
    have e : (!(model prog w).w.params.followText "set-order" && false) = false := Bool.and_false _
    exact (congrArg (fun b => Q₁ b s) e).mpr h
  refine wpAny_bind (k1 ?_)
  (try dsimp only)
  rw [if_neg Bool.false_ne_true]
  refine wpAny_bind (wpAny_pure ?_)
  refine wpAny_bind (wpAny_setEpoch_of hr rfl rfl ?_)
  refine wpAny_bind (wpAny_newObj_type (wpAny_pure ⟨_, rfl, "set_iterator", _, ⟨_, Heap.get?_push_size _ rfl, rfl⟩, slot_seti.lookup, ?_⟩))
  exact hQ
theorem hint_set {r : Addr} {Q : Bool → Shared → Prop} (hT : s.TypeIs (.ref r) "set") (h : Q false s) : wpAny (model prog w) A (Builtin.List.listLengthHint (.ref r)) Q E s := by
  unfold Builtin.List.listLengthHint
  refine wpAny_bind (wpAny_specialOf hT PySem.F.slot_set_len.lookup ?_)
  generalize hid : ("set.__len__" : String) = id0
  wp_delta
  rw [show splitId id0 = some ("set", "__len__") from by subst hid; decide +kernel]
  subst hid
  refine wpAny_bind (wpAny_isInstance (T := "set") (b := true) hT (by rw [isSubtype_type]; kernel_rfl) ?_)
  refine wpAny_ite_split (fun hab => absurd hab (by decide)) (fun _ => ?_)
  refine wpAny_ite_split (fun _ => ?_) (fun hab => absurd (by decide +kernel) hab)
  refine wpAny_bind (wpAny_typeOf hT ?_)
  exact wpAny_pure h

theorem walks_eset {I r : Addr} {led : Bool} (hh : A.handled = none) (hne : r ≠ I) : Walks prog w A I [I, r] [I] 0 (fun _ _ => True) (fun _ h => (∃ o, h.get? I = some o ∧ o.cls = .type "set_iterator" ∧ o.data = .fields #[.int 0 0, .int 0 0, .ref r, .int 0 0, .int 0 0]) ∧ h.get? r = some (eset led)) where
  sub := fun b hb => by simp at hb; simp [hb]
  frame := fun _ _ _ st hk => ⟨let ⟨o, a, b⟩ := st.1; ⟨o, hk I (by simp) o a, b⟩, hk r (by simp) _ st.2⟩
  item := fun i s Q E hi st hQ => absurd hi (Nat.not_lt_zero i)
  done := fun s Q E st hQ => by
    obtain ⟨⟨o, a, b, c⟩, d⟩ := st
    exact seti_end hh a b c d fun h' he' => hQ h' s.toks fun b o hb e => he' b o (fun h => hb (by simp [h])) e
  self := fun i s Q E st hQ => by
    obtain ⟨⟨o, a, b, c⟩, d⟩ := st
    have hT : s.TypeIs (.ref I) "set_iterator" := ⟨o, a, b⟩
    refine wpAny_pyIter_slot hT slot_seti_iter (wpAny_call_entry slot_seti_iter hT entry_seti_iter ?_ (args_seti_iter _))
    show wpAny _ _ (ret (.ref I)) _ _ s
    exact wpAny_pure ⟨_, rfl, "set_iterator", _, hT, slot_seti.lookup, hQ⟩
theorem src_eset (r : Addr) (led : Bool) : KdlSrc prog w "set" r r 0 (fun _ _ => True) (fun h => h.get? r = some (eset led)) where
  type := fun _ h => ⟨_, h, rfl⟩
  there := fun _ h => ⟨Heap.lt_size h, Heap.lt_size h⟩
  keep := fun _ _ h hk => hk r (.inl rfl) _ h
  notList := by decide
  notTuple := by decide
  hint := fun _ _ _ _ h hq => hint_set ⟨_, h, rfl⟩ hq
  iter := fun _ _ hh h => ⟨_, _, (fun _ _ hq => pyIter_eset h hq), walks_eset hh (Nat.ne_of_lt (Heap.lt_size h)), ⟨_, Heap.get?_push_size _ rfl, rfl, rfl⟩, Heap.get?_push_of_some _ h⟩
theorem sorted_eset {h₀ : Heap} {L : Addr} {m : Str → Option Value} {news : List (Addr × Obj)} {r : Addr} {led : Bool} {Q : Value → Shared → Prop} (F : Fr h₀ L s.heap m) (N : News h₀ L s.heap news) (hh : A.handled = none) (hr : (r, eset led) ∈ news)
    (h : ∀ (D : Addr) (h' : Heap) (tk e : Nat), Fr h₀ L h' m → News h₀ L h' ((D, W.listOf #[] e) :: news) → (∀ p ∈ news, p.1 < D) → Q (.ref D) { s with heap := h', toks := tk }) :
    wpAny (model prog w) A (call (.builtin "sorted") [.ref r]) Q E s := by
  refine kdu_sorted (src_eset r led) hh F N (N _ hr).1 (Nat.zero_le _) fun D h1 tk1 vs F1 N1 l1 hl _ => ?_
  obtain rfl : vs = [] := List.length_eq_zero_iff.mp hl
  have hD := (N1 _ (.head _)).1
  refine wpAny_call_entry slot_list_sort ⟨_, hD, rfl⟩ entry_list_sort (sort_small hD (by decide) ?_) (args_list_sort _)
  have hDn := N1 _ (.head _)
  obtain ⟨e, he⟩ := sortedHeap_at (out := #[]) hD
  have old : ∀ b o, b ≠ D → h1.get? b = some o → (sortedHeap h1 D [] #[]).get? b = some o := fun b o hb ho => (sortedHeap_old hb (Heap.lt_size ho)).trans ho
  refine ⟨_, rfl, h D _ _ e ⟨F1.ns.at' fun o ho => old L o (Ne.symm hDn.2.1) ho, fun b o ho => old b o (fun eb => by subst eb; rw [hDn.2.2] at ho; cases ho) (F1.keep b o ho), F1.above⟩ (fun p hp => ?_) l1⟩
  rcases List.mem_cons.mp hp with rfl | hp
  · exact ⟨he, hDn.2⟩
  · have hn := N1 p (.tail _ hp)
    exact ⟨old _ _ (Nat.ne_of_lt (l1 p hp)) hn.1, hn.2⟩
theorem sub_dv_set : isSubtype (.type "dict_values") (.type "set") = pure false := by rw [isSubtype_type]; kernel_rfl
theorem sub_dv_fset : isSubtype (.type "dict_values") (.type "frozenset") = pure false := by rw [isSubtype_type]; kernel_rfl
theorem set_view {v d : Addr} {ep : Nat} {Q : Value → Shared → Prop}
    (hh : A.handled = none) (hv : s.heap.IsValuesView v d) (hm : s.heap.DictAt (intKind prog w) d [] ep)
    (h : ∀ (h' : Heap) (tk : Nat) (led : Bool), h'.get? s.heap.objs.size = some (eset led) → (∀ b o, s.heap.get? b = some o → h'.get? b = some o) → Q (.ref s.heap.objs.size) { s with heap := h', toks := tk }) :
    wpAny (model prog w) A (call (.type "set") [.ref v]) Q E s := by
  obtain ⟨c, tl, hmro⟩ := F.called_set.mro
  have hmade := F.called_set.made
  have hsub := F.called_set.sub
  refine wpAny_call (codeAny_of_tree ?_)
  show wpAny _ _ (callAny (.type "set") _) _ _ _
  refine wpAny_pure ⟨Code.quiet_builtin _ (by decide +kernel), codeAny_builtin F.entry_type_call ?_⟩
  rw [Around.under_plain (weight_type_call_type "set" [.ref v] []) rfl]
  repeat (any_goals (first | assumption | exact F.called_set.notType | exact F.called_set.canCreate | exact F.typeCall_set_1 (.ref v) | wp_step))
  refine codeAny_mono (code_set_new_1 (.ref v) (E := E) (Q₁ := fun obj s₁ => ∃ led : Bool, obj = .ref s.heap.objs.size ∧ s₁ = { s with heap := s.heap.push { cls := .type "set", dict := none, data := .set #[] 0 (.fresh 0 0 led) } }) fun led => ⟨led, rfl, rfl⟩) fun r s₁ hr => ?_
  cases r with
  | error e => exact hr
  | ok fl =>
    cases fl with
    | ret obj =>
      obtain ⟨led, rfl, rfl⟩ := hr
      have hS : (s.heap.push (eset led)).get? s.heap.objs.size = some (eset led) := Heap.get?_push_size _ rfl
      have hT : Shared.TypeIs { s with heap := s.heap.push (eset led) } (.ref s.heap.objs.size) "set" := ⟨_, hS, rfl⟩
      have hli := F.called_set.init.lookup
      have hbi := F.called_set.init.bind (.ref s.heap.objs.size)
      repeat (any_goals (first | assumption | wp_step))
      refine codeAny_mono (codeAny_call_builtin (R := wants (fun r s₂ => r = .none ∧ ∃ h' tk, s₂ = { s with heap := h', toks := tk } ∧
          h'.get? s.heap.objs.size = some (eset led) ∧ (∀ b o, s.heap.get? b = some o → h'.get? b = some o)) E) F.called_set.init.plain F.entry_set_init (check_set_init_1 hT ?_)) fun r₂ s₂ hr₂ => ?_
      · have hsls := sub_dv_set
        have hslf := sub_dv_fset
        have hne : (Value.type "dict_values" == Value.type "dict") = false := by decide
        have hv1 : (s.heap.push (eset led)).IsValuesView v d := by obtain ⟨o, a, b⟩ := hv; exact ⟨o, Heap.get?_push_of_some _ a, b⟩
        have hTv : Shared.TypeIs { s with heap := s.heap.push (eset led) } (.ref v) "dict_values" := hv1.typeIs
        unfold Builtin.«set.__init__» noKeywords Builtin.Frozenset.updateFrom
        generalize hPI : pyIter = PI
        wp_walk
        subst hPI
        have hm1 : (s.heap.push (eset led)).DictAt (intKind prog w) d [] ep := hm.push _
        refine wpAny_pyIter_values hv1 hm1 ?_
        refine wpAny_bind (wpAny_runValue ?_)
        refine codeAny_builtin F.entry_set_update_loop ?_
        rw [Around.under_plainId F.plain_set_update_loop _]
        show wpAny _ _ (pyNext _ >>= _) _ _ _
        refine wpAny_bind (wpAny_pyNext_values_end (knd := intKind prog w) (d := d) (i := 0) (ep := ep) (kvs := []) (by simp [hh]) ⟨_, Heap.get?_push_size _ rfl, rfl, rfl⟩ (hm1.push _) rfl fun h' he => ?_)
        show wpAny _ _ (ret Value.none) _ _ _
        refine wpAny_pure ?_
        show wpAny _ _ _ _ _ _
        refine wpAny_pure ?_
        refine wpAny_pure ⟨rfl, h', _, rfl, he _ _ (by rw [Heap.size_push]; exact Nat.ne_of_lt (Nat.lt_succ_self _)) (Heap.get?_push_of_some _ hS), fun b o e => he b o (by rw [Heap.size_push]; exact Nat.ne_of_lt (Nat.lt_succ_of_lt (Heap.lt_size e))) (Heap.get?_push_of_some _ (Heap.get?_push_of_some _ e))⟩
      · cases r₂ with
        | error e => exact hr₂
        | ok fl₂ =>
          cases fl₂ with
          | ret r =>
            obtain ⟨rfl, h', tk, rfl, hS', hk'⟩ := hr₂
            repeat (any_goals (first | assumption | wp_step))
            exact h _ _ led hS' hk'
          | next => exact hr₂.elim
          | brk => exact hr₂.elim
          | cont => exact hr₂.elim
    | next => exact hr.elim
    | brk => exact hr.elim
    | cont => exact hr.elim
end
section
variable {prog : Program} {w : World} {A : Around} {E : Value → Shared → Prop} {s : Shared} {env : Env} {h₀ : Heap} {target : Expr} {body : List Stmt} {Q : Flow → Shared → Prop}
/-- the end of a turn: the iterator's object as it stood, and the word J of the rest -/
inductive TurnEnd (h₀ : Heap) (L : Addr) (I : Addr) (oI : Obj) (J : (Str → Option Value) → List (Addr × Obj) → Prop) (s₁ : Shared) (s₂ : Shared) : Prop
  | mk : ∀ h' tk m' nw, (s₂ = { s₁ with heap := h', toks := tk }) → (Fr h₀ L h' m') → (News h₀ L h' ((I, oI) :: nw)) → ((∀ p ∈ nw, p.1 ≠ I)) → (J m' nw) → TurnEnd h₀ L I oI J s₁ s₂
theorem TurnEnd.of {L : Addr} {I : Addr} {oI : Obj} {J : (Str → Option Value) → List (Addr × Obj) → Prop} {s₁ : Shared} {h' : Heap} {tk : Nat} {m' : Str → Option Value} {all : List (Addr × Obj)} (nw : List (Addr × Obj))
    (F : Fr h₀ L h' m') (N : News h₀ L h' all) (sub : ∀ p ∈ (I, oI) :: nw, p ∈ all) (off : ∀ p ∈ nw, p.1 ≠ I) (j : J m' nw) : TurnEnd h₀ L I oI J s₁ { s₁ with heap := h', toks := tk } :=
  ⟨h', tk, m', nw, rfl, F, PyProof.Rows.News.perm N sub, off, j⟩
theorem TurnEnd.keep {L : Addr} {I : Addr} {oI : Obj} {Jk : (Str → Option Value) → Prop} {s₁ : Shared} {h' : Heap} {tk : Nat} {m' : Str → Option Value} {all nw₀ : List (Addr × Obj)}
    (F : Fr h₀ L h' m') (N : News h₀ L h' all) (sub : ∀ p ∈ (I, oI) :: nw₀, p ∈ all) (off : ∀ p ∈ nw₀, p.1 ≠ I) (j : Jk m') : TurnEnd h₀ L I oI (fun m nw => Jk m ∧ nw = nw₀) s₁ { s₁ with heap := h', toks := tk } :=
  ⟨h', tk, m', nw₀, rfl, F, PyProof.Rows.News.perm N sub, off, j, rfl⟩
def TurnPost (h₀ : Heap) (L : Addr) (I : Addr) (oI : Obj) (J : (Str → Option Value) → List (Addr × Obj) → Prop) (Q : Flow → Shared → Prop) (s₁ : Shared) (f : Flow) (s₂ : Shared) : Prop :=
  match f with
  | .ret v => Q (.ret v) s₂
  | .brk => Q .next s₂
  | _ => TurnEnd h₀ L I oI J s₁ s₂

theorem iterW {I : Addr} {fp : List Addr} {n : Nat} {P : Nat → Value → Prop} {St : Nat → Heap → Prop} {m₀ : Str → Option Value} {nw₀ : List (Addr × Obj)} (J : Nat → (Str → Option Value) → List (Addr × Obj) → Prop)
    (W : Walks prog w A I fp [I] n P St)
    (hgo : ∀ i v (s : Shared) (Q : Unit → Shared → Prop) (E : Value → Shared → Prop), St i s.heap → Q () s → wpAny (model prog w) A (letOwnedTupleGo target (.ref I) v) Q E s)
    (hLf : env.locals ∉ fp) (hI₀ : h₀.get? I = none) (hIo : ∀ i h, St i h → ∃ o, h.get? I = some o)
    (hfp : ∀ b ∈ fp, b ≠ I → (∃ o, h₀.get? b = some o) ∨ ∃ o, ∀ i m nw, J i m nw → (b, o) ∈ nw)
    (hst : St 0 s.heap) (F : Fr h₀ env.locals s.heap m₀) (N : News h₀ env.locals s.heap nw₀) (hoff : ∀ p ∈ nw₀, p.1 ≠ I) (hj : J 0 m₀ nw₀)
    (turn : ∀ i v m₁ nw oI h tk, i < n → P i v → J i m₁ nw → (∀ p ∈ nw, p.1 ≠ I) → Fr h₀ env.locals h m₁ → News h₀ env.locals h ((I, oI) :: nw) →
      wpAny (model prog w) A (assign target env v) (fun _ s₃ => wpAny (model prog w) A (execs body env) (TurnPost h₀ env.locals I oI (J (i + 1)) Q { s with heap := h, toks := tk }) E s₃) E { s with heap := h, toks := tk })
    (done : ∀ m₁ nw h tk, J n m₁ nw → Fr h₀ env.locals h m₁ → News h₀ env.locals h nw → Q .next { s with heap := h, toks := tk }) :
    TurnsAt prog w A h₀ env target body Q E (.ref I) s := by
  refine ⟨I, fp, [I], n, _, _, St, m₀, nw₀, J, rfl, KTurns.ofWalks W hgo, hLf, ?_, ?_, hst, F, N, hj, ?_, ?_⟩
  · intro b hb; rw [List.mem_singleton.mp hb]; exact hI₀
  · intro p hp hI; exact hoff p hp (List.mem_singleton.mp hI)
  · intro i v m₁ nw h₁ tk₁ own hi hP hJ hnw hsub hget hall hst₁ F₁ N₁
    have hnw' : ∀ p ∈ nw, p.1 ≠ I := fun p hp e => hnw p hp (List.mem_singleton.mpr e)
    obtain ⟨oI, hoI⟩ := hIo _ _ hst₁
    have hIf : I ∈ fp := W.sub I (List.mem_singleton.mpr rfl)
    have hIown : (I, oI) ∈ own := hall I hIf hI₀ _ hoI
    have Nn : News h₀ env.locals h₁ nw := PyProof.Rows.News.perm N₁ fun p hp => List.mem_append.mpr (.inr hp)
    have N₂ : News h₀ env.locals h₁ ((I, oI) :: nw) := PyProof.Rows.News.perm N₁ fun p hp => by
      rcases List.mem_cons.mp hp with rfl | hp
      · exact List.mem_append.mpr (.inl hIown)
      · exact List.mem_append.mpr (.inr hp)
    refine wpAny_mono (turn i v m₁ nw oI h₁ tk₁ hi hP hJ hnw' F₁ N₂) (fun _ s₃ h₃ => wpAny_mono h₃ (fun f s₄ h₄ => ?_) fun _ _ e => e) fun _ _ e => e
    have fin : TurnEnd h₀ env.locals I oI (J (i + 1)) { s with heap := h₁, toks := tk₁ } s₄ → LoopStepU h₀ env.locals [I] own (J (i + 1)) { s with heap := h₁, toks := tk₁ } .next s₄ := by
      rintro ⟨h', tk, m', nw', e, F', N', off', j'⟩
      refine ⟨rfl, h', tk, m', nw', e, F', fun p hp => ?_, fun p hp hq => off' p hp (List.mem_singleton.mp hq), j'⟩
      rcases List.mem_append.mp hp with h | h
      · by_cases hpI : p.1 = I
        · have : h₁.get? p.1 = some p.2 := hget p h
          rw [hpI, hoI] at this
          have e2 : p = (I, oI) := Prod.ext hpI (Option.some.inj this).symm
          rw [e2]
          exact N' _ (.head _)
        · have hp0 : h₀.get? p.1 = none := (N₁ p (List.mem_append.mpr (.inl h))).2.2
          rcases hfp p.1 (hsub p h) hpI with ⟨o, ho⟩ | ⟨o, ho⟩
          · rw [hp0] at ho; cases ho
          · have g1 := (Nn _ (ho i m₁ nw hJ)).1
            have g2 := hget p h
            dsimp only at g1
            rw [g2] at g1
            have e2 : p = (p.1, o) := Prod.ext rfl (Option.some.inj g1)
            rw [e2]
            exact N' _ (.tail _ (ho _ _ _ j'))
      · exact N' p (.tail _ h)
    cases f with
    | ret v => exact .ret h₄
    | brk => exact .brk h₄
    | next => exact .next (fin h₄)
    | cont => exact .cont (fin h₄)
  · intro h' tk m' nw F' N' _ hJ
    exact done m' nw h' tk hJ F' N'

/-- a for over a list that the ledger (or the base) bears, any target -/
theorem iterL {l : Addr} {vs : List Value} {nn : Nat} {m₀ : Str → Option Value} {nw₀ : List (Addr × Obj)} (J : Nat → (Str → Option Value) → List (Addr × Obj) → Prop)
    (hh : A.handled = none) (hk : ∀ i m nw, J i m nw → (l, W.listOf vs.toArray nn) ∈ nw) (F : Fr h₀ env.locals s.heap m₀) (N : News h₀ env.locals s.heap nw₀) (hj : J 0 m₀ nw₀)
    (turn : ∀ i v m₁ nw I oI h tk, vs[i]? = some v → J i m₁ nw → (∀ p ∈ nw, p.1 ≠ I) → Fr h₀ env.locals h m₁ → News h₀ env.locals h ((I, oI) :: nw) →
      wpAny (model prog w) A (assign target env v) (fun _ s₃ => wpAny (model prog w) A (execs body env) (TurnPost h₀ env.locals I oI (J (i + 1)) Q { s with heap := h, toks := tk }) E s₃) E { s with heap := h, toks := tk })
    (done : ∀ m₁ nw h tk, J vs.length m₁ nw → Fr h₀ env.locals h m₁ → News h₀ env.locals h nw → Q .next { s with heap := h, toks := tk }) :
    wpAny (model prog w) A (pyIter (.ref l)) (fun it s₂ => TurnsAt prog w A h₀ env target body Q E it s₂) E s := by
  have hm := hk 0 m₀ nw₀ hj
  have hol : s.heap.get? l = some (W.listOf vs.toArray nn) := (N _ hm).1
  have hls : s.heap.IsList l vs.toArray := ⟨_, hol, rfl, nn, rfl⟩
  have hne : l ≠ s.heap.objs.size := Nat.ne_of_lt (Heap.lt_size hol)
  refine wpAny_pyIter_list hls ?_
  have hsz : vs.toArray.size = vs.length := List.size_toArray ..
  refine iterW (n := vs.toArray.size) (nw₀ := nw₀) (m₀ := m₀) J (Walks.list hh s.heap.objs.size l hne vs.toArray) (fun i v s Q E st hq => letGo_listiter st.1 hq) ?_ (next_is_new F) (fun i h st => by obtain ⟨o, e, _⟩ := st.1; exact ⟨o, e⟩) ?_
    ⟨⟨_, Heap.get?_push_size _ rfl, rfl, rfl⟩, hls.push _⟩ (F.push _) (fun p hp => ⟨Heap.get?_push_of_some _ (N p hp).1, (N p hp).2⟩) (fun p hp => Nat.ne_of_lt (Heap.lt_size (N p hp).1)) hj ?_ ?_
  · intro h
    rcases List.mem_cons.mp h with e | h
    · exact absurd F.ns.lt (e ▸ Nat.lt_irrefl _)
    · exact (N _ hm).2.1 (List.mem_singleton.mp h).symm
  · intro b hb hbI
    rcases List.mem_cons.mp hb with e | hb
    · exact absurd e hbI
    · rw [List.mem_singleton.mp hb]; exact .inr ⟨_, hk⟩
  · intro i v m₁ nw oI h tk hi hP hJ off F₁ N₁
    exact turn i v m₁ nw _ oI h tk (by simpa using hP) hJ off F₁ N₁
  · intro m₁ nw h tk hJ F' N'
    exact done m₁ nw h tk (hsz ▸ hJ) F' N'
/-- a for over a tuple of the ledger -/
theorem iterT {l : Addr} {vs : List Value} {oT : Obj} {m₀ : Str → Option Value} {nw₀ : List (Addr × Obj)} (J : Nat → (Str → Option Value) → List (Addr × Obj) → Prop)
    (hh : A.handled = none) (hT : ∀ h : Heap, h.get? l = some oT → h.IsTuple l vs.toArray) (hk : ∀ i m nw, J i m nw → (l, oT) ∈ nw) (F : Fr h₀ env.locals s.heap m₀) (N : News h₀ env.locals s.heap nw₀) (hj : J 0 m₀ nw₀)
    (turn : ∀ i v m₁ nw I oI h tk, vs[i]? = some v → J i m₁ nw → (∀ p ∈ nw, p.1 ≠ I) → Fr h₀ env.locals h m₁ → News h₀ env.locals h ((I, oI) :: nw) →
      wpAny (model prog w) A (assign target env v) (fun _ s₃ => wpAny (model prog w) A (execs body env) (TurnPost h₀ env.locals I oI (J (i + 1)) Q { s with heap := h, toks := tk }) E s₃) E { s with heap := h, toks := tk })
    (done : ∀ m₁ nw h tk, J vs.length m₁ nw → Fr h₀ env.locals h m₁ → News h₀ env.locals h nw → Q .next { s with heap := h, toks := tk }) :
    wpAny (model prog w) A (pyIter (.ref l)) (fun it s₂ => TurnsAt prog w A h₀ env target body Q E it s₂) E s := by
  have hm := hk 0 m₀ nw₀ hj
  have hol : s.heap.get? l = some oT := (N _ hm).1
  have hls : s.heap.IsTuple l vs.toArray := hT _ hol
  have hne : l ≠ s.heap.objs.size := Nat.ne_of_lt (Heap.lt_size hol)
  refine wpAny_pyIter_tuple hls ?_
  have hsz : vs.toArray.size = vs.length := List.size_toArray ..
  refine iterW (n := vs.toArray.size) (nw₀ := nw₀) (m₀ := m₀) J (Walks.tuple hh s.heap.objs.size l hne vs.toArray) (fun i v s Q E st hq => letGo_tupleiter st.1 hq) ?_ (next_is_new F) (fun i h st => by obtain ⟨o, e, _⟩ := st.1; exact ⟨o, e⟩) ?_
    ⟨⟨_, Heap.get?_push_size _ rfl, rfl, rfl⟩, hT _ (Heap.get?_push_of_some _ hol)⟩ (F.push _) (fun p hp => ⟨Heap.get?_push_of_some _ (N p hp).1, (N p hp).2⟩) (fun p hp => Nat.ne_of_lt (Heap.lt_size (N p hp).1)) hj ?_ ?_
  · intro h
    rcases List.mem_cons.mp h with e | h
    · exact absurd F.ns.lt (e ▸ Nat.lt_irrefl _)
    · exact (N _ hm).2.1 (List.mem_singleton.mp h).symm
  · intro b hb hbI
    rcases List.mem_cons.mp hb with e | hb
    · exact absurd e hbI
    · rw [List.mem_singleton.mp hb]; exact .inr ⟨_, hk⟩
  · intro i v m₁ nw oI h tk hi hP hJ off F₁ N₁
    exact turn i v m₁ nw _ oI h tk (by simpa using hP) hJ off F₁ N₁
  · intro m₁ nw h tk hJ F' N'
    exact done m₁ nw h tk (hsz ▸ hJ) F' N'
/-- a for over a list of the ledger whose turns leave the ledger as it stands (but for new entries that nobody needs) -/
theorem iterLk {l : Addr} {vs : List Value} {nn : Nat} {m₀ : Str → Option Value} {nw₀ : List (Addr × Obj)} (J : Nat → (Str → Option Value) → Prop)
    (hh : A.handled = none) (F : Fr h₀ env.locals s.heap m₀) (N : News h₀ env.locals s.heap nw₀) (hm : (l, W.listOf vs.toArray nn) ∈ nw₀) (hj : J 0 m₀)
    (turn : ∀ i v m₁ I oI h tk, vs[i]? = some v → J i m₁ → (∀ p ∈ nw₀, p.1 ≠ I) → Fr h₀ env.locals h m₁ → News h₀ env.locals h ((I, oI) :: nw₀) →
      wpAny (model prog w) A (assign target env v) (fun _ s₃ => wpAny (model prog w) A (execs body env) (TurnPost h₀ env.locals I oI (fun m nw => J (i + 1) m ∧ nw = nw₀) Q { s with heap := h, toks := tk }) E s₃) E { s with heap := h, toks := tk })
    (done : ∀ m₁ h tk, J vs.length m₁ → Fr h₀ env.locals h m₁ → News h₀ env.locals h nw₀ → Q .next { s with heap := h, toks := tk }) :
    wpAny (model prog w) A (pyIter (.ref l)) (fun it s₂ => TurnsAt prog w A h₀ env target body Q E it s₂) E s := by
  refine iterL (vs := vs) (nn := nn) (fun i m nw => J i m ∧ nw = nw₀) hh (fun i m nw h => by rw [h.2]; exact hm) F N ⟨hj, rfl⟩ ?_ ?_
  · rintro i v m₁ nw I oI h tk hv ⟨hJ, rfl⟩ off F' N'
    exact turn i v m₁ I oI h tk hv hJ off F' N'
  · rintro m₁ nw h tk ⟨hJ, rfl⟩ F' N'
    exact done m₁ h tk hJ F' N'
/-- the same over a tuple of the ledger -/
theorem iterTk {l : Addr} {vs : List Value} {oT : Obj} {m₀ : Str → Option Value} {nw₀ : List (Addr × Obj)} (J : Nat → (Str → Option Value) → Prop)
    (hh : A.handled = none) (F : Fr h₀ env.locals s.heap m₀) (N : News h₀ env.locals s.heap nw₀) (hm : (l, oT) ∈ nw₀) (hT : ∀ h : Heap, h.get? l = some oT → h.IsTuple l vs.toArray) (hj : J 0 m₀)
    (turn : ∀ i v m₁ I oI h tk, vs[i]? = some v → J i m₁ → (∀ p ∈ nw₀, p.1 ≠ I) → Fr h₀ env.locals h m₁ → News h₀ env.locals h ((I, oI) :: nw₀) →
      wpAny (model prog w) A (assign target env v) (fun _ s₃ => wpAny (model prog w) A (execs body env) (TurnPost h₀ env.locals I oI (fun m nw => J (i + 1) m ∧ nw = nw₀) Q { s with heap := h, toks := tk }) E s₃) E { s with heap := h, toks := tk })
    (done : ∀ m₁ h tk, J vs.length m₁ → Fr h₀ env.locals h m₁ → News h₀ env.locals h nw₀ → Q .next { s with heap := h, toks := tk }) :
    wpAny (model prog w) A (pyIter (.ref l)) (fun it s₂ => TurnsAt prog w A h₀ env target body Q E it s₂) E s := by
  refine iterT (vs := vs) (oT := oT) (fun i m nw => J i m ∧ nw = nw₀) hh hT (fun i m nw h => by rw [h.2]; exact hm) F N ⟨hj, rfl⟩ ?_ ?_
  · rintro i v m₁ nw I oI h tk hv ⟨hJ, rfl⟩ off F' N'
    exact turn i v m₁ I oI h tk hv hJ off F' N'
  · rintro m₁ nw h tk ⟨hJ, rfl⟩ F' N'
    exact done m₁ h tk hJ F' N'
end
theorem subLast {α : Type} {r : List α} {all : List α} (h : ∀ p ∈ r, p ∈ all) : ∀ p ∈ r, p ∈ all := h
theorem subTail {α : Type} {r all : List α} {q : α} (h : ∀ p ∈ r, p ∈ all) : ∀ p ∈ r, p ∈ q :: all := fun p hp => .tail _ (h p hp)
theorem subCons {α : Type} {r all : List α} {q : α} (hq : q ∈ all) (h : ∀ p ∈ r, p ∈ all) : ∀ p ∈ q :: r, p ∈ all := fun p hp => (List.mem_cons.mp hp).elim (fun e => e ▸ hq) (h p)
local macro_rules | `(tactic| walk_at "sub tail") => pure (κtO [(κex (κta `Lean.Parser.Term.fun "fun" [(κnd `Lean.Parser.Term.basicFun [κnu [κh_, (κi `h)], κnu [], κtm "=>", (κi `h)])])), (κpa [(κrf (κap `subTail [κq0])), (κwa "sub tail")])])
local macro_rules | `(tactic| walk_at "sub cons") => pure (κtO [(κex (κap `List.forall_mem_nil [κh_])), (κwa "sub tail"), (κpa [(κrf (κap `subCons [κqm, κq0])), (κwa "sub cons")])])
local macro_rules | `(tactic| walk_at "sublist") => pure (κtO [(κex (κta `Lean.Parser.Term.fun "fun" [(κnd `Lean.Parser.Term.basicFun [κnu [κh_, (κi `h)], κnu [], κtm "=>", (κi `h)])])), (κex (κta `Lean.Parser.Term.fun "fun" [(κnd `Lean.Parser.Term.basicFun [κnu [κh_, (κi `h)], κnu [], κtm "=>", (κnd `Lean.Parser.Term.app [(κta `Lean.Parser.Term.dotIdent "." [(κi `tail)]), κnu [κh_, (κi `h)]])])])), (κex (κta `Lean.Parser.Term.fun "fun" [(κnd `Lean.Parser.Term.basicFun [κnu [κh_, (κi `h)], κnu [], κtm "=>", (κnd `Lean.Parser.Term.app [(κta `Lean.Parser.Term.dotIdent "." [(κi `tail)]), κnu [κh_, (κnd `Lean.Parser.Term.app [(κta `Lean.Parser.Term.dotIdent "." [(κi `tail)]), κnu [κh_, (κi `h)]])]])])])), (κex (κta `Lean.Parser.Term.fun "fun" [(κnd `Lean.Parser.Term.basicFun [κnu [κh_, (κi `h)], κnu [], κtm "=>", (κnd `Lean.Parser.Term.app [(κta `Lean.Parser.Term.dotIdent "." [(κi `tail)]), κnu [κh_, (κnd `Lean.Parser.Term.app [(κta `Lean.Parser.Term.dotIdent "." [(κi `tail)]), κnu [κh_, (κnd `Lean.Parser.Term.app [(κta `Lean.Parser.Term.dotIdent "." [(κi `tail)]), κnu [κh_, (κi `h)]])]])]])])])), (κpa [(κtr [(κsmo [`List.cons_append, `List.nil_append] none)]), (κwa "sub cons")])])
local macro_rules | `(tactic| walk_at "TurnPost") => pure (κdsm [`TurnPost] none)
def big : Int := 2 ^ 2000
theorem pow_bound {c : Int} (hc : c ≤ 100) : (0 : Int) ≤ 7901 ^ (9 + (c + 1)).toNat ∧ (7901 : Int) ^ (9 + (c + 1)).toNat < big := by
  have h : (9 + (c + 1)).toNat ≤ 110 := by lia
  refine ⟨Int.pow_nonneg (by decide), ?_⟩
  have h1 : (7901 : Nat) ^ (9 + (c + 1)).toNat ≤ 7901 ^ 110 := Nat.pow_le_pow_right (by decide) h
  have h2 : (7901 : Nat) ^ 110 < 2 ^ 2000 := by decide +kernel
  have h3 : (7901 : Nat) ^ (9 + (c + 1)).toNat < 2 ^ 2000 := Nat.lt_of_le_of_lt h1 h2
  unfold big
  exact_mod_cast h3
theorem fdiv_small {x many B : Int} (hx : 0 ≤ x) (hb : x < B) (hm : 2 ≤ many) : 0 ≤ x.fdiv many ∧ x.fdiv many < B ∧ 0 ≤ x.fmod many ∧ x.fmod many < many := by
  rw [Int.fdiv_eq_ediv_of_nonneg _ (by lia), Int.fmod_eq_emod_of_nonneg _ (by lia)]
  have h1 := Int.ediv_nonneg hx (show 0 ≤ many by lia)
  have h2 : x / many ≤ x := Int.ediv_le_self _ hx
  exact ⟨h1, by lia, Int.emod_nonneg _ (by lia), Int.emod_lt_of_pos _ (by lia)⟩
/-- the pen: two ints, a number that is not yet used up, and how often it was filled anew -/
structure PenOk (x c lim : Int) : Prop where
  x0 : 0 ≤ x
  xb : x < big
  c0 : 0 ≤ c
  cb : c ≤ lim
noncomputable section
namespace draw_core
def St : Prop := ∀ {w : World} {k : Nat} {h₀ : Heap} {L : Addr} {A : Around} {m : Str → Option Value} {rest : List (Addr × Obj)} {s : Shared} {pen : Addr} {x c lim many : Int} {tx tc tk : Tok} {n : Nat} {Q E : Value → Shared → Prop} (S : Sit w (k + 1) h₀ L A) (F : Fr h₀ L s.heap m) (N : News h₀ L s.heap ((pen, W.listOf #[.int x tx, .int c tc] n) :: rest)) (hoff : ∀ p ∈ rest, p.1 ≠ pen) (P : PenOk x c lim) (hl : lim ≤ 100) (hm0 : 2 ≤ many) (hm : many ≤ 1000) (ret : ∀ x' c' tx' tc' d td h' tk', PenOk x' c' (lim + 1) → 0 ≤ d → d < many → Fr h₀ L h' m → News h₀ L h' ((pen, W.listOf #[.int x' tx', .int c' tc'] n) :: rest) → Q (.int d td) { s with heap := h', toks := tk' }),
    wpAny (MD w) A (call (.ref 843) [.ref pen, .int many tk]) Q E s
def G1 : {P : LAO → Addr → Int → Int → Int → Int → Tok → Tok → Tok → Nat → World → Heap → Addr → Around → SOV → Shared → VSP → VSP → Nat → Nat → (Option (List Code)) → (List Env) → Around → Heap → (List Str) → EOV → SOV → SOV → Heap → Addr → Heap → Nat → Prop // (∀ rest pen x c lim many tx tc ξ1 n w h₀ L A m s Q E dp un gd outer A₀ base loose mean mg mb g L' h₁ tk, P rest pen x c lim many tx tc ξ1 n w h₀ L A m s Q E dp un gd outer A₀ base loose mean mg mb g L' h₁ tk) → St} := ⟨_, by
  intro hh w k h₀ L A m rest s pen x c lim many tx tc tk n Q E S F N hoff P hl hm0 hm ret
  refine lessK S ?_
  clear S k; intro S
  obtain ⟨hx, hxb, hc0, hc⟩ := P
  refine fillK (w := w) ?_; k_fill; intro _ _
  k_dflt (refine enter [(Str.ofString "pen", _), (Str.ofString "many", _)] S F N (by k_is) (by k_is) (fun _ _ => BindsTo.of_eq rfl) (locs rfl) rfl rfl rfl (by decide) ?_)
  clear S F N
  intro dp un gd outer A₀ base loose mean mg mb g L' h₁ tk S B F X N lt T hd hu st
  rename_i ξ1 ξ2 ξ3
  clear ξ2 ξ3
  revert hoff hl hm0 hm ret hx hxb hc0 hc S B F X N lt T hd hu st
  exact hh rest pen x c lim many tx tc ξ1 n w h₀ L A m s Q E dp un gd outer A₀ base loose mean mg mb g L' h₁ tk⟩
def R1 (ξ : Cx × ((((LAO × Addr) × Int) × (Int × Int)) × (((Int × Tok) × Tok) × (Tok × Nat)))) := fun c w => G1.1 ξ.2.1.1.1.1 ξ.2.1.1.1.2 ξ.2.1.1.2 c ξ.2.1.2.2 ξ.2.2.1.1.1 ξ.2.2.1.1.2 ξ.2.2.1.2 ξ.2.2.2.1 ξ.2.2.2.2 w ξ.1.h₀ ξ.1.L ξ.1.A ξ.1.m ξ.1.s ξ.1.Q ξ.1.E ξ.1.dp ξ.1.un ξ.1.gd ξ.1.outer ξ.1.A₀ ξ.1.base ξ.1.loose ξ.1.mean ξ.1.mg ξ.1.mb ξ.1.g ξ.1.L' ξ.1.h₁ ξ.1.tk
def P1 (ξ : Cx × ((((LAO × Addr) × Int) × (Int × Int)) × (((Int × Tok) × Tok) × (Tok × Nat)))) : Prop := R1 ξ ξ.2.1.2.1 ξ.1.w
@[irreducible] def z1 : Cx × ((((LAO × Addr) × Int) × (Int × Int)) × (((Int × Tok) × Tok) × (Tok × Nat))) := ep P1 (by walk_at "ne")
@[irreducible] def c := z1.2.1.2.1
@[irreducible] def w := z1.1.w
theorem m1 : R1 z1 c w := by
  intro hoff hl hm0 hm ret hx hxb hc0 hc S B F X N lt T hd hu st
  w_strict (
    refine fillK (w := w) ?_; k_fill; intro _ _
    k_fold
    k_steps)
  · have pb := pow_bound (c := c) (by lia)
    have fs := fdiv_small pb.1 pb.2 hm0
    refine EndK.of (by assumption) (by assumption) ?_
    intro kF kN
    exact ret _ _ _ _ _ _ _ _ ⟨fs.1, fs.2.1, by lia, by lia⟩ fs.2.2.1 fs.2.2.2 kF (PyProof.Rows.News.tail' kN)
  · have fs := fdiv_small hx hxb hm0
    refine EndK.of (by assumption) (by assumption) ?_
    intro kF kN
    exact ret _ _ _ _ _ _ _ _ ⟨fs.1, fs.2.1, by lia, by lia⟩ fs.2.2.1 fs.2.2.2 kF (PyProof.Rows.News.tail' kN)
end draw_core
end
theorem draw_core : draw_core.St := draw_core.G1.2 (fun rest pen x c lim many tx tc ξ1 n w h₀ L A m s Q E dp un gd outer A₀ base loose mean mg mb g L' h₁ tk => @ep_go _ draw_core.P1 _ _ (by with_unfolding_all exact draw_core.m1) ((⟨m, [], Q, E, s, A, L, h₀, 0, w, dp, un, gd, outer, A₀, base, loose, mean, mg, mb, g, L', h₁, tk⟩ : Cx), ((((rest, pen), x), (c, lim)), (((many, tx), tc), (ξ1, n)))) (by kernel_rfl))
/-- a pen whose second int is at most lim -/
inductive PenAt (o : Obj) (lim : Int) : Prop
  | mk : ∀ x c tx tc n, (o = W.listOf #[.int x tx, .int c tc] n) → (PenOk x c lim) → PenAt o lim
theorem PenAt.to {o : Obj} {a b : Int} (h : PenAt o a) (e : a ≤ b) : PenAt o b := let ⟨x, c, tx, tc, n, eo, p⟩ := h; ⟨x, c, tx, tc, n, eo, p.x0, p.xb, p.c0, Int.le_trans p.cb e⟩
theorem news_front {h₀ h : Heap} {L d : Addr} {o : Obj} {pre post : List (Addr × Obj)} (N : News h₀ L h (pre ++ (d, o) :: post)) : News h₀ L h ((d, o) :: (pre ++ post)) := PyProof.Rows.News.perm N fun p hp => by
  rcases List.mem_cons.mp hp with rfl | hp
  · exact List.mem_append.mpr (.inr (.head _))
  · rcases List.mem_append.mp hp with hp | hp
    · exact List.mem_append.mpr (.inl hp)
    · exact List.mem_append.mpr (.inr (.tail _ hp))
theorem news_back {h₀ h : Heap} {L d : Addr} {o : Obj} {pre post : List (Addr × Obj)} (N : News h₀ L h ((d, o) :: (pre ++ post))) : News h₀ L h (pre ++ (d, o) :: post) := PyProof.Rows.News.perm N fun p hp => by
  rcases List.mem_append.mp hp with hp | hp
  · exact .tail _ (List.mem_append.mpr (.inl hp))
  · rcases List.mem_cons.mp hp with rfl | hp
    · exact .head _
    · exact .tail _ (List.mem_append.mpr (.inr hp))
theorem off_both {d : Addr} {pre post : List (Addr × Obj)} (a : ∀ p ∈ pre, p.1 ≠ d) (b : ∀ p ∈ post, p.1 ≠ d) : ∀ p ∈ pre ++ post, p.1 ≠ d := fun p hp => (List.mem_append.mp hp).elim (a p) (b p)
/-- the draw as its callers take it: the pen stands anywhere in the ledger -/
theorem draw_ok {w : World} {k : Nat} {h₀ : Heap} {L : Addr} {A : Around} {m : Str → Option Value} {news : List (Addr × Obj)} {g : Obj → List (Addr × Obj)} {s : Shared} {pen : Addr} {o : Obj} {lim many : Int} {tk : Tok} {Q E : Value → Shared → Prop}
    (S : Sit w (k + 1) h₀ L A) (F : Fr h₀ L s.heap m) (N : News h₀ L s.heap news) (U : UpdF pen o news g)
    (P : PenAt o lim) (hl : lim ≤ 100) (hm0 : 2 ≤ many) (hm : many ≤ 1000)
    (ret : ∀ o' d td h' tk', PenAt o' (lim + 1) → 0 ≤ d → d < many → Fr h₀ L h' m → News h₀ L h' (g o') → Q (.int d td) { s with heap := h', toks := tk' }) :
    wpAny (MD w) A (call (.ref 843) [.ref pen, .int many tk]) Q E s := by
  obtain ⟨pre, post, rfl, hg, a, b⟩ := U.split
  obtain ⟨x, c, tx, tc, n, rfl, P⟩ := P
  exact draw_core (rest := pre ++ post) S F (news_front N) (off_both a b) P hl hm0 hm fun x' c' tx' tc' d td h' tk' P' d0 d1 F' N' =>
    ret _ _ _ _ _ ⟨x', c', tx', tc', n, rfl, P'⟩ d0 d1 F' (by rw [hg]; exact news_back N')
section
local macro_rules | `(tactic| walk_at "xT") => pure (κpa [κhr, κwr (κta `Lean.Parser.Tactic.show "show" [κap `wpAny [κh_, κh_, κh_, κh_, κh_, κap `Shared.mk [κh_, κap `Shared.gens [κh_], κh_, κh_, κh_]]]), κdsm [] none, κta `PySem.W.tacticK_gentoks "k_gentoks" []])
local macro_rules | `(tactic| walk_at "execs cons") => pure (κwa "xT")
local macro_rules | `(tactic| walk_at "execs nil") => pure (κwa "xT")
def penJ (base : Str → Option Value) (i : Nat) (m : Str → Option Value) : Prop :=
  ∃ u num t, m = up (Str.ofString "number") (some (.int num t)) (up (Str.ofString "cell") u base) ∧ 0 ≤ num ∧ num ≤ 10 ^ 41 * 1010 ^ i
theorem pen_bound {n : Nat} {num : Int} (h : n ≤ 30) (hb : num ≤ 10 ^ 41 * 1010 ^ n) : num < big := by
  have h1 : (1010 : Nat) ^ n ≤ 1010 ^ 30 := Nat.pow_le_pow_right (by decide) h
  have h2 : (10 : Nat) ^ 41 * 1010 ^ 30 < 2 ^ 2000 := by decide +kernel
  have h3 : (10 : Nat) ^ 41 * 1010 ^ n < 2 ^ 2000 := Nat.lt_of_le_of_lt (Nat.mul_le_mul_left _ h1) h2
  have h4 : (10 : Int) ^ 41 * 1010 ^ n < big := by unfold big; exact_mod_cast h3
  lia
theorem pen_step {n : Nat} {num r : Int} (h0 : 0 ≤ num) (hb : num ≤ 10 ^ 41 * 1010 ^ n) (r0 : 0 ≤ r) (rb : r < 10 ^ 40) : 0 ≤ num * 1009 + r ∧ num * 1009 + r ≤ 10 ^ 41 * 1010 ^ (n + 1) := by
  have h1 : (1 : Int) ≤ 1010 ^ n := by
    have : 0 < (1010 : Nat) ^ n := Nat.pow_pos (by decide)
    exact_mod_cast this
  rw [Int.pow_succ]
  lia
noncomputable section
namespace pen_ok
def St : Prop := ∀ {w : World} {k : Nat} {h₀ : Heap} {L : Addr} {A : Around} {m : Str → Option Value} {news : List (Addr × Obj)} {s : Shared} {l : Addr} {vs : List Value} {ns : List Int} {Q E : Value → Shared → Prop} (S : Sit w (k + 1) h₀ L A) (F : Fr h₀ L s.heap m) (N : News h₀ L s.heap news) (hl : h₀.IsList l vs.toArray) (hi : IntsAre vs ns) (hlen : vs.length ≤ 63) (ret : ∀ pen o h' tk', PenAt o 0 → Fr h₀ L h' m → News h₀ L h' ((pen, o) :: news) → (∀ p ∈ news, p.1 < pen) → Q (.ref pen) { s with heap := h', toks := tk' }),
    wpAny (MD w) A (call (.ref 836) [.ref l]) Q E s
def G1 : {P : LAO → Addr → (List Value) → (List Int) → World → Heap → Addr → Around → SOV → Shared → VSP → VSP → Nat → Nat → (Option (List Code)) → (List Env) → Around → Heap → (List Str) → EOV → SOV → SOV → Heap → Addr → Heap → Nat → Prop // (∀ news l vs ns w h₀ L A m s Q E dp un gd outer A₀ base loose mean mg mb g L' h₁ tk, P news l vs ns w h₀ L A m s Q E dp un gd outer A₀ base loose mean mg mb g L' h₁ tk) → St} := ⟨_, by
  intro hh w k h₀ L A m news s l vs ns Q E S F N hl hi hlen ret
  refine lessK S ?_
  clear S k; intro S
  refine fillK (w := w) ?_; k_fill; intro _ _
  k_dflt (refine enter [(Str.ofString "script", _)] S F N (by k_is) (by k_is) (fun _ _ => BindsTo.of_eq rfl) (locs rfl) rfl rfl rfl (by decide) ?_)
  clear S F N
  intro dp un gd outer A₀ base loose mean mg mb g L' h₁ tk S B F X N lt T hd hu st
  rename_i ξ1 ξ2
  clear ξ1 ξ2
  revert hl hi hlen ret S B F X N lt T hd hu st
  exact hh news l vs ns w h₀ L A m s Q E dp un gd outer A₀ base loose mean mg mb g L' h₁ tk⟩
def R1 (ξ : Cx × ((LAO × Addr) × ((List Value) × (List Int)))) := fun l vs ns w h₀ g tk => G1.1 ξ.2.1.1 l vs ns w h₀ ξ.1.L ξ.1.A ξ.1.m ξ.1.s ξ.1.Q ξ.1.E ξ.1.dp ξ.1.un ξ.1.gd ξ.1.outer ξ.1.A₀ ξ.1.base ξ.1.loose ξ.1.mean ξ.1.mg ξ.1.mb g ξ.1.L' ξ.1.h₁ tk
def P1 (ξ : Cx × ((LAO × Addr) × ((List Value) × (List Int)))) : Prop := R1 ξ ξ.2.1.2 ξ.2.2.1 ξ.2.2.2 ξ.1.w ξ.1.h₀ ξ.1.g ξ.1.tk
@[irreducible] def z1 : Cx × ((LAO × Addr) × ((List Value) × (List Int))) := ep P1 (by walk_at "ne")
@[irreducible] def l := z1.2.1.2
@[irreducible] def vs := z1.2.2.1
@[irreducible] def ns := z1.2.2.2
@[irreducible] def w := z1.1.w
@[irreducible] def h₀ := z1.1.h₀
@[irreducible] def g := z1.1.g
@[irreducible] def tk := z1.1.tk
theorem m1 : R1 z1 l vs ns w h₀ g tk := by
  intro hl hi hlen ret S B F X N lt T hd hu st
  w_strict (
    refine fillK (w := w) ?_; k_fill; intro _ _
    k_fold
    have hl' : g.IsList l vs.toArray := stays_list st hl
    k_with_none
    k_with "for" => (with_unfolding_all refine For_turns (h₀ := g) (by assumption) ?_ (by intro _; rfl) PassesOwn.never)
    k_steps)
  k_sweep
  (try dsimp only)
  k_dflt (refine' iterLk (nn := 0) (penJ (fun y => List.lookup y [(Str.ofString "script", Value.ref l)].reverse)) rfl ?F ?N ?hm ?hj ?turn ?done)
  case F => k_asm
  case N => k_asm
  case hm => k_mem
  case hj => exact ⟨none, 13, _, congrArg (up (Str.ofString "number") (some (.int 13 _))) (up_none (x := Str.ofString "cell") rfl), by decide, by decide⟩
  case' turn => (rintro i v m₁ I oI h tk hv ⟨u, num, t, rfl, hn0, hnb⟩ off F' N'; obtain ⟨cv, ct, rfl, hcv⟩ := IntsAre.at (by assumption) i v hv; dsimp only; k_fold)
  case' done => (rintro m₁ h tk ⟨u, num, t, rfl, hn0, hnb⟩ F' N'; dsimp only)
  all_goals (k_sweep)
  all_goals w_strict k_steps
  case done =>
    refine EndK.of (by assumption) (by assumption) ?_
    intro kF kN
    refine ret _ _ _ _ ?_ kF (newsSk1 kN) (PySem.W.ktn_ltOf (And.right (by assumption)))
    refine ⟨num, 0, _, _, 0, rfl, hn0, ?_, Int.le_refl _, Int.le_refl _⟩
    exact pen_bound (by have := IntsAre.length (by assumption : IntsAre _ (List.take 30 ns)); lia) hnb
  refine TurnEnd.keep (by assumption) (by assumption) (by walk_at "sublist") (by assumption) ?_
  refine ⟨_, _, _, up_same, ?_⟩
  exact pen_step hn0 hnb (Int.fmod_nonneg_of_pos _ (by decide)) (Int.fmod_lt_of_pos _ (by decide))
end pen_ok
end
theorem pen_ok : pen_ok.St := pen_ok.G1.2 (fun news l vs ns w h₀ L A m s Q E dp un gd outer A₀ base loose mean mg mb g L' h₁ tk => @ep_go _ pen_ok.P1 _ _ (by with_unfolding_all exact pen_ok.m1) ((⟨m, [], Q, E, s, A, L, h₀, 0, w, dp, un, gd, outer, A₀, base, loose, mean, mg, mb, g, L', h₁, tk⟩ : Cx), ((news, l), (vs, ns))) (by kernel_rfl))
end
theorem enterC {w : World} {k : Nat} {A : Around} {s : Shared} {h₀ : Heap} {L : Addr} {m : Str → Option Value} {news : List (Addr × Obj)} {Q E : Value → Shared → Prop}
    {name qual : Str} {params : Arguments} {body : List Stmt} {scope : Scope} {dV kV doc pm cdv ct oc : Value} {an od : Option Addr} {osl : Array (Option Value)} {f : Addr} {args : List Value} (binds : List (Str × Value))
    (S : Sit w (k + 1) h₀ L A) (F : Fr h₀ L s.heap m) (N : News h₀ L s.heap news)
    (ho : List.lookup f (KM w.params) = some ⟨oc, od, .func (fnOf name qual params body scope dV kV doc pm an cdv ct), osl⟩) (hcd : codeIn (KM w.params) cdv qual = true)
    (hbind : ∀ s' : Shared, (KM w.params).In s'.heap → BindsTo s' (fnOf name qual params body scope dV kV doc pm an cdv ct) ⟨args, []⟩ binds)
    (hkind : (binds.all fun y => scope.names.lookup y.1 == some .local || scope.names.lookup y.1 == some .cell) = true)
    (hnd : ((cellsFrom 0 scope.names []).map (·.1)).Nodup)
    (hco : scope.isCoroutine = false) (hgen : scope.isGenerator = false) (hk : scope.kind = .function)
    (h : ∀ (dp un : Nat) (gd : Option (List Code)) (outer : List Env) (A₀ : Around) (base : Heap) (loose : List Str) (mean : ExcName → Option Value) (mg mb : Str → Option Value) (g : Heap) (L' : Addr) (h₁ : Heap) (tk : Nat) (cells : List (Addr × Obj)),
      Sit w k g L' { handled := none, depth := dp, frames := some (envOfC qual scope L' f cdv :: outer), guards := gd, units := un } →
      Below A₀ base outer g → Fr g L' h₁ (bindL (envOfC qual scope L' f cdv).kindOf binds fun _ => none) → (KM w.params).In g → News g L' h₁ (cells ++ news) →
      CellsAre (bindC (envOfC qual scope L' f cdv).kindOf binds fun _ => none) (cellsFrom (L' + 1) scope.names []) cells → (∀ p ∈ news, p.1 < L') → Top qV loose mean mg mb g → dp + k < recursionLimit → un + 8 * k < cLine → h₀.StaysIn g →
      wpAny (MD w) { handled := none, depth := dp, frames := some (envOfC qual scope L' f cdv :: outer), guards := gd, units := un } (execs body (envOfC qual scope L' f cdv))
        (fun fl s' => EndK h₀ L m g Q (match fl with | .ret v => v | _ => .none) s') (fun _ _ => False) { s with heap := h₁, toks := tk }) :
    wpAny (MD w) A (call (.ref f) args) Q E s := by
  obtain ⟨dp, un, gd, env, outer, A₀, base, loose, mean, mg, mb, rfl, B, X, T, hf, hke, hd, hu⟩ := S
  refine wpAny_call ?_
  refine callX_cells (A := { handled := none, depth := dp, frames := some (env :: outer), guards := gd, units := un }) (s := s) (m := m) (news := news) (binds := binds) B F N T.nolimit rfl hf hke ((X.keeps F.keep) _ _ ho) rfl (codeRec_of (X.keeps F.keep) hcd) (by show dp < _; lia) (hbind _ (X.keeps F.keep)) (kindsX hkind) hnd (fun g L' h₁ tk cells FG F' N' Y B' st lt => ?_) hco hgen hk
  have hk' : (envOfC qual scope L' f cdv).scope.kind = .function := hk
  have := h (dp + 1) (un + 3) gd (env :: outer) _ base loose mean mg mb g L' h₁ tk cells (Sit.of B' (X.keeps st) (T.keeps st) rfl hk' (by lia) (by lia)) B' F' (X.keeps st) N' Y lt (T.keeps st) (by lia) (by lia) st
  refine wpAny_mono this (fun fl s' hl => ?_) (fun _ _ e => e.elim)
  exact hl
section
variable {prog : Program} {w : World} {A : Around} {h₀ : Heap} {L : Addr} {m : Str → Option Value} {env : Env} {elt : Expr} {x : Str} {scope : Scope} {cl : List (Str × Addr)} {s : Shared} {S : List (Addr × Obj) → Prop} {P : Nat → Value → Prop} {Fin : List Value → List (Addr × Obj) → Prop}
theorem compRest_ind {n : Nat} {news : List (Addr × Obj)} (J : Nat → List Value → List (Addr × Obj) → Prop)
    (hj : J 0 [] news) (turn : ∀ i ys nw v I oI C oC D m₂ h tk (E' : Value → Shared → Prop), i < n → J i ys nw → P i v → LCg.NsObj oC m₂ → m₂ x = some v → Fr h₀ L h m → News h₀ L h ((I, oI) :: (C, oC) :: (D, LCg.lst ys) :: nw) → LCg.Off3 I C D nw → ((@Ne Nat I C) ∧ (@Ne Nat I D) ∧ (@Ne Nat C D)) →
      wpAny (model prog w) A (eval elt (compEnvC scope cl C env)) (LCg.CompEnd h₀ L m { s with heap := h, toks := tk } I oI C oC D (LCg.lst ys) S (fun y nw' => J (i + 1) (ys ++ [y]) nw')) E' { s with heap := h, toks := tk })
    (fin : ∀ ys nw, J n ys nw → Fin ys nw) : LCg.CompRest prog w A h₀ L m env elt x scope cl s S P Fin n 0 [] news := by
  have key : ∀ (j i : Nat) (ys : List Value) (nw : List (Addr × Obj)), i + j = n → J i ys nw → LCg.CompRest prog w A h₀ L m env elt x scope cl s S P Fin j i ys nw := by
    intro j
    induction j with
    | zero => intro i ys nw hi hJ; exact LCg.CompRest.zero (fin _ _ (by have e : i = n := by lia
                                                                        exact e ▸ hJ))
    | succ j ih =>
      intro i ys nw hi hJ
      refine LCg.CompRest.succ ?_
      intro v I oI C oC D m₂ h tk E' hv hC hx F N off ne
      refine wpAny_mono (turn i ys nw v I oI C oC D m₂ h tk E' (by lia) hJ hv hC hx F N off ne) (fun y s₂ hq => ?_) fun _ _ e => e
      obtain ⟨h', tk', nw', e, F', N', off', hS, hn⟩ := hq
      exact ⟨h', tk', nw', e, F', N', off', hS, ih (i + 1) _ _ (by lia) hn⟩
  exact key n 0 [] news (by lia) hj
end
/-- a goal at which the walk halts -/
def Hold (p : Prop) : Prop := p
theorem Hold.of {p : Prop} (h : Hold p) : p := h
local macro_rules | `(tactic| walk_at "CompSrc") => pure (κhol)
local macro_rules | `(tactic| walk_at "eval ListComp") => pure (κtD `LCg.ListComp_U [(κna `F₀ κqa), κqu, κqd, κqr, κqd, κqr, κq0])
local macro_rules | `(tactic| walk_at "exec Assign cons ListComp") => pure (κtD `LCg.Assign_ListComp_U [(κna `F₀ κqa), κqr, κqu, κqu, κqd, κqr, κqd, κqr, κqr, κqr, κq0])
def ListAt (ro : List (Addr × Obj)) (a : Addr) (vs : List Value) : Prop := ∃ n, (a, W.listOf vs.toArray n) ∈ ro
def TupAt (ro : List (Addr × Obj)) (a : Addr) (vs : List Value) : Prop := (a, ({ cls := .type "tuple", data := .seq vs.toArray } : Obj)) ∈ ro
def Sub (r r' : List (Addr × Obj)) : Prop := ∀ p ∈ r, p ∈ r'
theorem Sub.refl (r : List (Addr × Obj)) : Sub r r := fun _ h => h
theorem Sub.trans {a b c : List (Addr × Obj)} (x : Sub a b) (y : Sub b c) : Sub a c := fun p h => y p (x p h)
theorem Sub.cons {a b : List (Addr × Obj)} {q : Addr × Obj} (x : Sub a b) : Sub a (q :: b) := fun p h => .tail _ (x p h)
theorem ListAt.sub {r r' : List (Addr × Obj)} {a : Addr} {vs : List Value} (x : ListAt r a vs) (s : Sub r r') : ListAt r' a vs := let ⟨n, h⟩ := x; ⟨n, s _ h⟩
theorem TupAt.sub {r r' : List (Addr × Obj)} {a : Addr} {vs : List Value} (x : TupAt r a vs) (s : Sub r r') : TupAt r' a vs := s _ x
inductive IntsAt (ro : List (Addr × Obj)) (a : Addr) (ns : List Int) : Prop
  | mk : ∀ vs, (ListAt ro a vs) → (IntsAre vs ns) → IntsAt ro a ns
inductive TupIntsAt (ro : List (Addr × Obj)) (a : Addr) (ns : List Int) : Prop
  | mk : ∀ vs, (TupAt ro a vs) → (IntsAre vs ns) → TupIntsAt ro a ns
theorem IntsAt.sub {r r' : List (Addr × Obj)} {a : Addr} {ns : List Int} (x : IntsAt r a ns) (s : Sub r r') : IntsAt r' a ns := let ⟨vs, h, i⟩ := x; ⟨vs, h.sub s, i⟩
theorem TupIntsAt.sub {r r' : List (Addr × Obj)} {a : Addr} {ns : List Int} (x : TupIntsAt r a ns) (s : Sub r r') : TupIntsAt r' a ns := let ⟨vs, h, i⟩ := x; ⟨vs, h.sub s, i⟩
/-- each of the addresses bears its word -/
inductive Each {α : Type} (R : Addr → α → Prop) : List Addr → List α → Prop
  | nil : Each R [] []
  | cons {a : Addr} {x : α} {as : List Addr} {xs : List α} : R a x → Each R as xs → Each R (a :: as) (x :: xs)
theorem Each.imp {α : Type} {R R' : Addr → α → Prop} (f : ∀ a x, R a x → R' a x) : ∀ {as : List Addr} {xs : List α}, Each R as xs → Each R' as xs
  | _, _, .nil => .nil
  | _, _, .cons h t => .cons (f _ _ h) (t.imp f)
theorem Each.snoc {α : Type} {R : Addr → α → Prop} {a : Addr} {x : α} (h : R a x) : ∀ {as : List Addr} {xs : List α}, Each R as xs → Each R (as ++ [a]) (xs ++ [x])
  | _, _, .nil => .cons h .nil
  | _, _, .cons g t => .cons g (t.snoc h)
theorem Each.append {α : Type} {R : Addr → α → Prop} {bs : List Addr} {ys : List α} (h : Each R bs ys) : ∀ {as : List Addr} {xs : List α}, Each R as xs → Each R (as ++ bs) (xs ++ ys)
  | _, _, .nil => h
  | _, _, .cons g t => .cons g (Each.append h t)
theorem Each.length {α : Type} {R : Addr → α → Prop} : ∀ {as : List Addr} {xs : List α}, Each R as xs → as.length = xs.length
  | _, _, .nil => rfl
  | _, _, .cons _ t => congrArg (· + 1) t.length
theorem Each.at {α : Type} {R : Addr → α → Prop} : ∀ {as : List Addr} {xs : List α}, Each R as xs → ∀ {i : Nat} {x : α}, xs[i]? = some x → ∃ a, as[i]? = some a ∧ R a x
  | _, _, .nil, _, _, h => by simp at h
  | _, _, .cons h t, 0, _, e => by simp at e; subst e; exact ⟨_, rfl, h⟩
  | _, _, .cons h t, i + 1, _, e => by simp at e; simpa using t.at e
inductive RowsAt (ro : List (Addr × Obj)) (R : Addr) (rows : List (List Int)) : Prop
  | mk : ∀ rs : List Addr, (ListAt ro R (rs.map Value.ref)) → (Each (IntsAt ro) rs rows) → RowsAt ro R rows
inductive TagsAt (ro : List (Addr × Obj)) (T : Addr) (tags : List (List Int)) : Prop
  | mk : ∀ ts : List Addr, (ListAt ro T (ts.map Value.ref)) → (Each (TupIntsAt ro) ts tags) → TagsAt ro T tags
inductive AutoAt (ro : List (Addr × Obj)) (a : Addr) (rows tags : List (List Int)) : Prop
  | mk : ∀ R T, (TupAt ro a [.ref R, .ref T]) → (RowsAt ro R rows) → (TagsAt ro T tags) → AutoAt ro a rows tags
theorem RowsAt.sub {r r' : List (Addr × Obj)} {a : Addr} {ns : List (List Int)} (x : RowsAt r a ns) (s : Sub r r') : RowsAt r' a ns := let ⟨rs, h, e⟩ := x; ⟨rs, h.sub s, e.imp fun _ _ y => y.sub s⟩
theorem TagsAt.sub {r r' : List (Addr × Obj)} {a : Addr} {ns : List (List Int)} (x : TagsAt r a ns) (s : Sub r r') : TagsAt r' a ns := let ⟨rs, h, e⟩ := x; ⟨rs, h.sub s, e.imp fun _ _ y => y.sub s⟩
theorem AutoAt.sub {r r' : List (Addr × Obj)} {a : Addr} {ns ms : List (List Int)} (x : AutoAt r a ns ms) (s : Sub r r') : AutoAt r' a ns ms := let ⟨R, T, h, e, f⟩ := x; ⟨R, T, h.sub s, e.sub s, f.sub s⟩
/-- an automaton as _law_automaton draws it: two or three states, three classes, tags of two rules -/
structure AutoOk (rows tags : List (List Int)) : Prop where
  two : 2 ≤ rows.length
  three : rows.length ≤ 3
  same : tags.length = rows.length
  rows : ∀ r ∈ rows, r.length = 3 ∧ ∀ x ∈ r, -1 ≤ x ∧ x < rows.length
  first : tags[0]? = some []
  tags : ∀ t ∈ tags, t = [] ∨ t = [0] ∨ t = [1] ∨ t = [0, 1]
local macro_rules | `(tactic| walk_at "off") => pure (κpa [(κtr [(κdsm [] none)]), (κta `PySem.W.tacticK_all "k_all" [])])
theorem offAt {I C D a : Addr} {o : Obj} {l : List (Addr × Obj)} (h : LCg.Off3 I C D l) (m : (a, o) ∈ l) : (@Ne Nat a I) ∧ (@Ne Nat a C) ∧ (@Ne Nat a D) := LCg.Off3.mem h (a, o) m
/-- item by fact: an item of a ledger's list at a place of which the context tells -/
local macro_rules | `(tactic| walk_at "subscriptTail") => pure (κpa [κhr, (κwr (κta `Lean.Parser.Tactic.show "show" [(κap `wpAny [κh_, κh_, (κap `subscriptTail [κh_, κh_, κgr, κgi]), κh_, κh_, κh_])])), (κkd [(κta `Lean.Parser.Tactic.refine' "refine'" [(κap `item_L [(κsy `k1), (κsy `k2), (κsy `k3), (κsy `k4), (κsy `k5), κq0, (κsy `k6)])]), (κcs `k1 (κta `PySem.W.tacticK_asm "k_asm" [])), (κcs `k2 (κta `PySem.W.tacticK_mem "k_mem" [])), (κcs `k5 κas), (κcs `k3 κli), (κcs `k4 κli), (κcs `k6 (κwua κrfs)), κwh])])
/-- a sign of a text at a place of which the context tells -/
theorem item_chr {prog : Program} {w : World} {A : Around} {E : Value → Shared → Prop} {s : Shared} {value slice : Expr} {x : Str} {t u : Tok} {i c : Nat} {Q : Value → Shared → Prop} (hz : x.cps[i]? = some c) (hfit : i < 2 ^ 63)
    (h : Q (.str ⟨#[c]⟩ s.toks) { s with toks := s.toks + 1 })
    (hs : subscripted slice false (.str x t) (.int i u) = operate [.str x t, .int i u] (getItem (.str x t) (.int i u)) := by with_unfolding_all rfl)
    (ht : ∀ r, letTemporaryGo value (.str x t) r = pure () := by intro _; with_unfolding_all rfl) :
    wpAny (model prog w) A (subscriptTail value slice (.str x t) (.int (i : Int) u)) Q E s := by
  have hi : i < x.length := by
    have := (Array.getElem?_eq_some_iff.mp hz).1
    exact this
  refine tail_of_ItemOn ⟨"str", _, PyProof.Rows.slot_str_getitem.lookup, typeIs_str _ _ _, PyProof.Rows.getItem_str (c := c) ?_ ?_ h⟩ hs ht
  · simp only [Bool.or_eq_false_iff, decide_eq_false_iff_not]; lia
  · have : seqIndex? (i : Int) x.length = some i := by
      unfold seqIndex?
      have e : (if (i : Int) < 0 then (i : Int) + x.length else (i : Int)) = i := if_neg (by lia)
      simp only [e]
      rw [if_pos (by simp; exact hi)]
      rfl
    rw [this]
    exact hz
local macro_rules | `(tactic| walk_at "subscriptTail Name Name str int") => pure (κtA `item_chr [κqb, κql, κq0, κqu, κqi])
section
local macro_rules | `(tactic| walk_at "xT") => pure (κpa [κhr, κwr (κta `Lean.Parser.Tactic.show "show" [κap `wpAny [κh_, κh_, κh_, κh_, κh_, κap `Shared.mk [κh_, κap `Shared.gens [κh_], κh_, κh_, κh_]]]), κdsm [] none, κta `PySem.W.tacticK_gentoks "k_gentoks" []])
local macro_rules | `(tactic| walk_at "execs cons") => pure (κwa "xT")
local macro_rules | `(tactic| walk_at "execs nil") => pure (κwa "xT")
local macro_rules | `(tactic| k_room) => pure (κpa [(κtr [(κsmo [`depth_under_make, `depth_under_kw, `depth_in1, `depth_deeper] none)]), κli])
local macro_rules | `(tactic| walk_at "exec For") => pure (κwa "xF")
local macro_rules | `(tactic| walk_at "exec Assign") => pure (κtO [(κpa [(κwr (κta `Lean.Parser.Tactic.show "show" [(κap `wpAny [κh_, κh_, (κap `exec [(κap `PySem.Stmt.Assign [(κlst [(κap `PySem.Expr.Attribute [κh_, (κap `Str.ofString [(κsl "bounds")]), κh_])]), κh_, κh_]), κh_]), κh_, κh_, κh_])])), (κta `Lean.Parser.Tactic.rename "rename" [(κap `Hold [(κi `True)]), κtm "=>", (κim `hab)]), κhol]), (κpa [(κta `Lean.Parser.Tactic.rename "rename" [(κta `«term¬_» "¬" [(κnd `«term_=_» [(κap `Builtin.bitXor [κh_, κh_]), κtm "=", κh_])]), κtm "=>", (κim `hab)]), (κex (κap `absurd [(κbyT (κta `Lean.Parser.Tactic.decide "decide" [(κnd `Lean.Parser.Tactic.optConfig [κnu [(κnd `Lean.Parser.Tactic.configItem [(κta `Lean.Parser.Tactic.posConfigItem "+" [(κi `kernel)])])]])])), (κim `hab)]))])])
theorem turns_facts {prog : Program} {w : World} {K : KeyKind prog w Int} {o : Obj} {kvs : List (Int × Value)} {ps : List (PyData × PyData)} {a b c d : Tok} (hd : Obj.IsDictOf K o kvs) (hf : PyProof.V.FlatPairs PyData.int kvs ps) (e : kvs = [(0, .int 0 a), (97, .int 1 b), (98, .int 3 c), (99, .int 2 d)])
    (e2 : ps = [(.int 0, .int 0), (.int 97, .int 1), (.int 98, .int 3), (.int 99, .int 2)]) : ∃ a b c d : Tok, Obj.IsDictOf K o [(0, .int 0 a), (97, .int 1 b), (98, .int 3 c), (99, .int 2 d)] ∧ PyProof.V.FlatPairs PyData.int [(0, .int 0 a), (97, .int 1 b), (98, .int 3 c), (99, .int 2 d)] [(.int 0, .int 0), (.int 97, .int 1), (.int 98, .int 3), (.int 99, .int 2)] := by
  subst e e2
  exact ⟨a, b, c, d, hd, hf⟩
theorem letF {g h : Heap} {L : Addr} {m : Str → Option Value} {P : Prop} (F : Fr g L h m) (k : let m' := m; Fr g L h m' → P) : P := k F
noncomputable section
namespace classes_new
def St : Prop := ∀ {w : World} {k : Nat} {h₀ : Heap} {L : Addr} {A : Around} {m : Str → Option Value} {ro : List (Addr × Obj)} {s : Shared} {ls c0 c1 d0 d1 s0 s1 p0 p1 : Addr} {k1 k2 t1 t2 t3 t4 : Tok} {n1 n2 n3 : Nat} {Q E : Value → Shared → Prop} (S : Sit w (k + 6) h₀ L A) (F : Fr h₀ L s.heap m) (N : News h₀ L s.heap (([(ls, W.listOf #[.ref c0, .ref c1] n1), (c0, instObj 651 d0), (c1, instObj 651 d1), (d0, dictOf [en w (Str.ofString "spans") k1 (.ref s0)] n2), (d1, dictOf [en w (Str.ofString "spans") k2 (.ref s1)] n3), (s0, { cls := .type "tuple", data := .seq #[.ref p0] }), (s1, { cls := .type "tuple", data := .seq #[.ref p1] }), (p0, { cls := .type "tuple", data := .seq #[.int 97 t1, .int 97 t2] }), (p1, { cls := .type "tuple", data := .seq #[.int 98 t3, .int 98 t4] })] : List (Addr × Obj)) ++ ro)) (hoff : ∀ p ∈ ro, p.1 ∉ ([(ls, W.listOf #[.ref c0, .ref c1] n1), (c0, instObj 651 d0), (c1, instObj 651 d1), (d0, dictOf [en w (Str.ofString "spans") k1 (.ref s0)] n2), (d1, dictOf [en w (Str.ofString "spans") k2 (.ref s1)] n3), (s0, { cls := .type "tuple", data := .seq #[.ref p0] }), (s1, { cls := .type "tuple", data := .seq #[.ref p1] }), (p0, { cls := .type "tuple", data := .seq #[.int 97 t1, .int 97 t2] }), (p1, { cls := .type "tuple", data := .seq #[.int 98 t3, .int 98 t4] })] : List (Addr × Obj)).map (·.1)) (ret : ∀ x h' tk' ro', Fr h₀ L h' m → News h₀ L h' ro' → (∀ p ∈ ro, p ∈ ro') → (∀ p ∈ ro, p.1 ≠ x) → ClassesAt w ro' x → Q (.ref x) { s with heap := h', toks := tk' }),
    wpAny (MD w) A (call (.ref 727) [.ref ls]) Q E s
def G1 : {P : Addr → Addr → Addr → Addr → Addr → Addr → Addr → Addr → Addr → Tok → Tok → Tok → Tok → Tok → Tok → Nat → Nat → Nat → Addr → Addr → World → Heap → Addr → Around → SOV → LAO → Shared → VSP → VSP → Nat → Nat → (Option (List Code)) → (List Env) → Around → Heap → (List Str) → EOV → SOV → SOV → Heap → Addr → Heap → Nat → Prop // (∀ ls c0 c1 d0 d1 s0 s1 p0 p1 k1 k2 t1 t2 t3 t4 n1 n2 n3 x dx w h₀ L A m ro s Q E dp un gd outer A₀ base loose mean mg mb g L' h₁ tk, P ls c0 c1 d0 d1 s0 s1 p0 p1 k1 k2 t1 t2 t3 t4 n1 n2 n3 x dx w h₀ L A m ro s Q E dp un gd outer A₀ base loose mean mg mb g L' h₁ tk) → St} := ⟨_, by
  intro hh w k h₀ L A m ro s ls c0 c1 d0 d1 s0 s1 p0 p1 k1 k2 t1 t2 t3 t4 n1 n2 n3 Q E S F N hoff ret
  refine lessK S ?_
  clear S k; intro S
  refine fillK (w := w) ?_; k_fill; intro _ _
  k_dflt (refine enterIF [(ls, W.listOf #[.ref c0, .ref c1] n1), (c0, instObj 651 d0), (c1, instObj 651 d1), (d0, dictOf [en w (Str.ofString "spans") k1 (.ref s0)] n2), (d1, dictOf [en w (Str.ofString "spans") k2 (.ref s1)] n3), (s0, { cls := .type "tuple", data := .seq #[.ref p0] }), (s1, { cls := .type "tuple", data := .seq #[.ref p1] }), (p0, { cls := .type "tuple", data := .seq #[.int 97 t1, .int 97 t2] }), (p1, { cls := .type "tuple", data := .seq #[.int 98 t3, .int 98 t4] })] ro (fun x => [(Str.ofString "self", x), (Str.ofString "sets", _)]) S F N hoff (by k_is) (by k_is) (by k_is) (by k_is) (by k_is) (fun _ _ _ => BindsTo.of_eq rfl) (fun _ => locs rfl) rfl rfl rfl (by decide) ?_)
  clear S F N
  intro x dx l1 l2 dp un gd outer A₀ base loose mean mg mb g L' h₁ tk S B F X N lt T hd hu st
  rename_i ξ1 ξ2
  clear ξ1 ξ2
  revert hoff ret l1 l2 S B F X N lt T hd hu st
  exact hh ls c0 c1 d0 d1 s0 s1 p0 p1 k1 k2 t1 t2 t3 t4 n1 n2 n3 x dx w h₀ L A m ro s Q E dp un gd outer A₀ base loose mean mg mb g L' h₁ tk⟩
def R1 (ξ : Cx × (((((Addr × Addr) × Addr) × (Addr × Addr)) × (((Addr × Addr) × Addr) × (Addr × Tok))) × ((((Tok × Tok) × Tok) × (Tok × Tok)) × (((Nat × Nat) × Nat) × (Addr × Addr))))) := fun ls c0 c1 d0 d1 s0 s1 p0 p1 k1 k2 t1 t2 t3 t4 n1 n2 n3 x dx w h₁ => G1.1 ls c0 c1 d0 d1 s0 s1 p0 p1 k1 k2 t1 t2 t3 t4 n1 n2 n3 x dx w ξ.1.h₀ ξ.1.L ξ.1.A ξ.1.m ξ.1.ro ξ.1.s ξ.1.Q ξ.1.E ξ.1.dp ξ.1.un ξ.1.gd ξ.1.outer ξ.1.A₀ ξ.1.base ξ.1.loose ξ.1.mean ξ.1.mg ξ.1.mb ξ.1.g ξ.1.L' h₁ ξ.1.tk
def P1 (ξ : Cx × (((((Addr × Addr) × Addr) × (Addr × Addr)) × (((Addr × Addr) × Addr) × (Addr × Tok))) × ((((Tok × Tok) × Tok) × (Tok × Tok)) × (((Nat × Nat) × Nat) × (Addr × Addr))))) : Prop := R1 ξ ξ.2.1.1.1.1.1 ξ.2.1.1.1.1.2 ξ.2.1.1.1.2 ξ.2.1.1.2.1 ξ.2.1.1.2.2 ξ.2.1.2.1.1.1 ξ.2.1.2.1.1.2 ξ.2.1.2.1.2 ξ.2.1.2.2.1 ξ.2.1.2.2.2 ξ.2.2.1.1.1.1 ξ.2.2.1.1.1.2 ξ.2.2.1.1.2 ξ.2.2.1.2.1 ξ.2.2.1.2.2 ξ.2.2.2.1.1.1 ξ.2.2.2.1.1.2 ξ.2.2.2.1.2 ξ.2.2.2.2.1 ξ.2.2.2.2.2 ξ.1.w ξ.1.h₁
@[irreducible] def z1 : Cx × (((((Addr × Addr) × Addr) × (Addr × Addr)) × (((Addr × Addr) × Addr) × (Addr × Tok))) × ((((Tok × Tok) × Tok) × (Tok × Tok)) × (((Nat × Nat) × Nat) × (Addr × Addr)))) := ep P1 (by walk_at "ne")
@[irreducible] def ls := z1.2.1.1.1.1.1
@[irreducible] def c0 := z1.2.1.1.1.1.2
@[irreducible] def c1 := z1.2.1.1.1.2
@[irreducible] def d0 := z1.2.1.1.2.1
@[irreducible] def d1 := z1.2.1.1.2.2
@[irreducible] def s0 := z1.2.1.2.1.1.1
@[irreducible] def s1 := z1.2.1.2.1.1.2
@[irreducible] def p0 := z1.2.1.2.1.2
@[irreducible] def p1 := z1.2.1.2.2.1
@[irreducible] def k1 := z1.2.1.2.2.2
@[irreducible] def k2 := z1.2.2.1.1.1.1
@[irreducible] def t1 := z1.2.2.1.1.1.2
@[irreducible] def t2 := z1.2.2.1.1.2
@[irreducible] def t3 := z1.2.2.1.2.1
@[irreducible] def t4 := z1.2.2.1.2.2
@[irreducible] def n1 := z1.2.2.2.1.1.1
@[irreducible] def n2 := z1.2.2.2.1.1.2
@[irreducible] def n3 := z1.2.2.2.1.2
@[irreducible] def x := z1.2.2.2.2.1
@[irreducible] def dx := z1.2.2.2.2.2
@[irreducible] def w := z1.1.w
@[irreducible] def h₁ := z1.1.h₁
theorem m1 : R1 z1 ls c0 c1 d0 d1 s0 s1 p0 p1 k1 k2 t1 t2 t3 t4 n1 n2 n3 x dx w h₁ := by
  intro hoff ret l1 l2 S B F X N lt T hd hu st
  w_strict (
    refine fillK (w := w) ?_; k_fill; intro _ _
    k_fold
    have l1a : ∀ p ∈ ([(ls, W.listOf #[.ref c0, .ref c1] n1), (c0, instObj 651 d0), (c1, instObj 651 d1), (d0, dictOf [en w (Str.ofString "spans") k1 (.ref s0)] n2), (d1, dictOf [en w (Str.ofString "spans") k2 (.ref s1)] n3), (s0, { cls := .type "tuple", data := .seq #[.ref p0] }), (s1, { cls := .type "tuple", data := .seq #[.ref p1] }), (p0, { cls := .type "tuple", data := .seq #[.int 97 t1, .int 97 t2] }), (p1, { cls := .type "tuple", data := .seq #[.int 98 t3, .int 98 t4] })] : List (Addr × Obj)), p.1 < dx := fun p hp => l1 p (List.mem_append.mpr (.inl hp))
    k_lt l1a
    k_lt2 l2
    (try k_lt lt)
    have mark : Hold True := trivial
    k_steps)
  unfold Hold
  rename_i o9 _ _ hd9 hf9 _ _ _ _ h9 tk9 F9 N9
  revert hd9 hf9
  (repeat (with_reducible rename Obj.IsDictOf _ _ _ => zz; clear zz))
  (repeat (with_reducible rename PyProof.V.FlatPairs _ _ _ => zz; clear zz))
  (repeat (with_reducible rename PyProof.V.Flat _ _ => zz; clear zz))
  intro hd9 hf9
  obtain ⟨a, b, c, d, hd, hf⟩ := turns_facts hd9 hf9 (by rfl) (by rfl)
  have N10 := PyProof.Rows.News.perm N9 (news' := [(h₁.objs.size, o9), (x, instObj 727 dx), (dx, dictOf [] 0)]) (by walk_at "sublist")
  refine letF F9 ?_
  intro m9 F10
  clear F9 N9 hd9 hf9
  rename Hold True => mark
  clear mark
  k_sweep
  w_strict k_steps
  refine EndF.of (by assumption) (by assumption) ?_
  intro zF zN zo
  refine ⟨rfl, ret x _ _ _ zF zN (fun p hp => List.mem_append.mpr (.inr hp)) (fun p hp => Nat.ne_of_lt (Nat.lt_trans (l1 p (List.mem_append.mpr (.inr hp))) l2)) ⟨dx, _, _, _, _, _, _, _, _, _, _, _, _, _, _, _, _, _, .tail _ (.tail _ (.tail _ (.tail _ (.tail _ (.tail _ (.head _)))))), .tail _ (.tail _ (.tail _ (.tail _ (.tail _ (.tail _ (.tail _ (.head _))))))), .tail _ (.tail _ (.tail _ (.tail _ (.head _)))), .tail _ (.tail _ (.tail _ (.head _)))⟩⟩
end classes_new
end
theorem classes_new : classes_new.St := classes_new.G1.2 (fun ls c0 c1 d0 d1 s0 s1 p0 p1 k1 k2 t1 t2 t3 t4 n1 n2 n3 x dx w h₀ L A m ro s Q E dp un gd outer A₀ base loose mean mg mb g L' h₁ tk => @ep_go _ classes_new.P1 _ _ (by with_unfolding_all exact classes_new.m1) ((⟨m, ro, Q, E, s, A, L, h₀, 0, w, dp, un, gd, outer, A₀, base, loose, mean, mg, mb, g, L', h₁, tk⟩ : Cx), (((((ls, c0), c1), (d0, d1)), (((s0, s1), p0), (p1, k1))), ((((k2, t1), t2), (t3, t4)), (((n1, n2), n3), (x, dx))))) (by kernel_rfl))
end
theorem classes_ok {w : World} {k : Nat} {h₀ : Heap} {L : Addr} {A : Around} {m : Str → Option Value} {ro nwA nwB : List (Addr × Obj)} {s : Shared} {l x y : Addr} {n : Nat} {Q E : Value → Shared → Prop}
    (S : Sit w (k + 6) h₀ L A) (F : Fr h₀ L s.heap m) (N : News h₀ L s.heap ((l, W.listOf #[.ref x, .ref y] n) :: (nwB ++ (nwA ++ ro)))) (offl : ∀ p ∈ ro, p.1 ≠ l) (zA : ∀ p ∈ ro, ∀ q ∈ nwA, q.1 ≠ p.1) (zB : ∀ p ∈ nwA ++ ro, ∀ q ∈ nwB, q.1 ≠ p.1)
    (CA : CharAt w nwA x 97) (CB : CharAt w nwB y 98)
    (ret : ∀ x h' tk' ro', Fr h₀ L h' m → News h₀ L h' ro' → (∀ p ∈ ro, p ∈ ro') → (∀ p ∈ ro, p.1 ≠ x) → ClassesAt w ro' x → Q (.ref x) { s with heap := h', toks := tk' }) :
    wpAny (MD w) A (call (.ref 727) [.ref l]) Q E s := by
  obtain ⟨d0, s0, p0, k1, t1, t2, n1, a1, a2, a3, a4⟩ := CA
  obtain ⟨d1, s1, p1, k2, t3, t4, n2, b1, b2, b3, b4⟩ := CB
  have inA : ∀ p ∈ nwA, p ∈ (l, W.listOf #[.ref x, .ref y] n) :: (nwB ++ (nwA ++ ro)) := fun p hp => .tail _ (List.mem_append.mpr (.inr (List.mem_append.mpr (.inl hp))))
  have inB : ∀ p ∈ nwB, p ∈ (l, W.listOf #[.ref x, .ref y] n) :: (nwB ++ (nwA ++ ro)) := fun p hp => .tail _ (List.mem_append.mpr (.inl hp))
  refine classes_new (ls := l) (c0 := x) (c1 := y) (d0 := d0) (d1 := d1) (s0 := s0) (s1 := s1) (p0 := p0) (p1 := p1) (k1 := k1) (k2 := k2) (t1 := t1) (t2 := t2) (t3 := t3) (t4 := t4) (n1 := n) (n2 := n1) (n3 := n2) (ro := ro) S F (fun p hp => N p ?_) (fun p hp => ?_) ret
  · rcases List.mem_append.mp hp with hp | hp
    · simp only [List.mem_cons, List.not_mem_nil, or_false] at hp
      rcases hp with rfl | rfl | rfl | rfl | rfl | rfl | rfl | rfl | rfl
      · exact .head _
      · exact inA _ a1
      · exact inB _ b1
      · exact inA _ a2
      · exact inB _ b2
      · exact inA _ a3
      · exact inB _ b3
      · exact inA _ a4
      · exact inB _ b4
    · exact .tail _ (List.mem_append.mpr (.inr (List.mem_append.mpr (.inr hp))))
  · have fA := zA p hp
    have fB := zB p (List.mem_append.mpr (.inr hp))
    simp only [List.map_cons, List.map_nil, List.mem_cons, List.not_mem_nil, or_false, not_or]
    exact ⟨offl p hp, Ne.symm (fA _ a1), Ne.symm (fB _ b1), Ne.symm (fA _ a2), Ne.symm (fB _ b2), Ne.symm (fA _ a3), Ne.symm (fB _ b3), Ne.symm (fA _ a4), Ne.symm (fB _ b4)⟩
section
theorem ClassesAt.sub {w : World} {r r' : List (Addr × Obj)} {c : Addr} (x : ClassesAt w r c) (s : ∀ p ∈ r, p ∈ r') : ClassesAt w r' c := by
  obtain ⟨dc, bl, nl, k1, k2, k3, t1, t2, t3, t4, u1, u2, u3, u4, v, n1, n2, n3, a, b, d, e⟩ := x
  exact ⟨dc, bl, nl, k1, k2, k3, t1, t2, t3, t4, u1, u2, u3, u4, v, n1, n2, n3, s _ a, s _ b, s _ d, s _ e⟩
local macro_rules | `(tactic| walk_at "subscriptTail") => pure (κtC (κap `subscriptTail [κh_, κh_, κgr, κgi]) (κtA `item_L [κqa, κqm, κqd, κqd, (κi `rfl), κq0, κqu]))
theorem of_core {w : World} {k : Nat} {h₀ : Heap} {L : Addr} {A : Around} {m : Str → Option Value} {ro : List (Addr × Obj)} {s : Shared} {c : Addr} {code num : Int} {tm : Tok} {Q E : Value → Shared → Prop}
    (S : Sit w (k + 1) h₀ L A) (F : Fr h₀ L s.heap m) (N : News h₀ L s.heap ro) (C : ClassesAt w ro c) (hc : (code = 10 ∧ num = 0) ∨ (code = 97 ∧ num = 1) ∨ (code = 98 ∧ num = 2))
    (ret : ∀ t h' tk', Fr h₀ L h' m → News h₀ L h' ro → Q (.int num t) { s with heap := h', toks := tk' }) :
    wpAny (MD w) A (call (.ref 686) [.ref c, .int code tm]) Q E s := by
  obtain ⟨dc, bl, nl, k1, k2, k3, t1, t2, t3, t4, u1, u2, u3, u4, v, n1, n2, n3, C1, C2, C3, C4⟩ := C
  rcases hc with ⟨rfl, rfl⟩ | ⟨rfl, rfl⟩ | ⟨rfl, rfl⟩
  all_goals (
    w_strict (
      refine fillK (w := w) ?_; k_fill; intro _ _
      k_dflt (refine enter [(Str.ofString "self", _), (Str.ofString "code", _)] S F N (by k_is) (by k_is) (fun _ _ => BindsTo.of_eq rfl) (locs rfl) rfl rfl rfl (by decide) ?_)
      clear S F N
      intro dp un gd outer A₀ base loose mean mg mb g L' h₁ tk S B F X N lt T hd hu st
      k_fold
      k_steps))
  all_goals (
    (try dsimp only)
    refine EndK.of (by assumption) (by assumption) ?_
    intro kF kN
    exact ret _ _ _ kF kN)
end
local macro_rules | `(tactic| walk_at "call ref") => pure (κpa [κhr, (κkd [(κtO [(κpa [(κrf (κap `draw_ok [(κna `k (κnl "0")), (κbyT (κwa "xS")), κqa, κqa, (κbyT (κta `PySem.W.tacticK_updF "k_updF" [])), κqb, κql, κql, κql, κq0])), κwh, κins, (κrni [`N']), (κtr [(κdsm [] (some `N'))]), κsw])])])])
/-- the many rows -/
inductive rowJ (c2 c1 : Addr × Obj) (pen : Addr) (ro : List (Addr × Obj)) (lim many : Int) (i : Nat) (ys : List Value) (nw : List (Addr × Obj)) : Prop
  | mk : ∀ o ro' rs rows, (nw = c2 :: c1 :: (pen, o) :: ro') → (PenAt o (lim + 3 * i)) → (Sub ro ro') → ((∀ p ∈ ro', p.1 ≠ pen)) → ((∀ p ∈ ro', p.1 ≠ c2.1)) → ((∀ p ∈ ro', p.1 ≠ c1.1)) → (ys = rs.map Value.ref) → (Each (IntsAt ro') rs rows) → (rows.length = i) → (∀ r ∈ rows, r.length = 3 ∧ ∀ x ∈ r, -1 ≤ x ∧ x < many) → rowJ c2 c1 pen ro lim many i ys nw
inductive cellJ (pre : List (Addr × Obj)) (pen : Addr) (ro : List (Addr × Obj)) (lim many : Int) (i : Nat) (zs : List Value) (nw : List (Addr × Obj)) : Prop
  | mk : ∀ o row, (nw = pre ++ (pen, o) :: ro) → (PenAt o (lim + i)) → (IntsAre zs row) → (row.length = i) → (∀ x ∈ row, -1 ≤ x ∧ x < many) → cellJ pre pen ro lim many i zs nw
def tagOk (t : List Int) : Prop := t = [] ∨ t = [0] ∨ t = [1] ∨ t = [0, 1]
inductive tagJ (pre : List (Addr × Obj)) (pen : Addr) (ro : List (Addr × Obj)) (lim : Int) (i : Nat) (ys : List Value) (nw : List (Addr × Obj)) : Prop
  | mk : ∀ o ro' ts tags, (nw = pre ++ (pen, o) :: ro') → (PenAt o (lim + i)) → (Sub ro ro') → ((∀ p ∈ ro', p.1 ≠ pen)) → (ys = ts.map Value.ref) → (Each (TupIntsAt ro') ts tags) → (tags.length = i) → (∀ t ∈ tags, tagOk t) → tagJ pre pen ro lim i ys nw
theorem off3_app {I C D : Addr} {a : Addr × Obj} (h1 : a.1 ≠ I) (h2 : a.1 ≠ C) (h3 : a.1 ≠ D) {q q' : Addr × Obj} (e : q.1 = q'.1) {r : List (Addr × Obj)} : ∀ {l : List (Addr × Obj)}, LCg.Off3 I C D (l ++ q :: r) → LCg.Off3 I C D (l ++ q' :: a :: r)
  | [], h => ⟨e ▸ h.1, ⟨h1, h2, h3⟩, h.2⟩
  | _ :: _, h => ⟨h.1, off3_app h1 h2 h3 e h.2⟩
theorem tag_close {pre ro ro2 all : List (Addr × Obj)} {pen a I C D L : Addr} {o o6 oI oC oD : Obj} {lim : Int} {i : Nat} {ts : List Addr} {tags : List (List Int)} {t : List Int} {vs : List Value} {h₀ h' : Heap} {m : Str → Option Value} {s₁ : Shared} {tk : Nat}
    (hts : Each (TupIntsAt ro2) ts tags) (sub2 : Sub ro ro2) (off02 : ∀ p ∈ ro2, p.1 ≠ pen) (hlen : tags.length = i) (htags : ∀ t ∈ tags, tagOk t)
    (off : LCg.Off3 I C D (pre ++ (pen, o) :: ro2)) (F : Fr h₀ L h' m) (N : News h₀ L h' all) (P6 : PenAt o6 (lim + i + 1))
    (hm : (a, ({ cls := .type "tuple", data := .seq vs.toArray } : Obj)) ∈ all) (hv : IntsAre vs t) (ht : tagOk t) (sub : ∀ p ∈ (I, oI) :: (C, oC) :: (D, oD) :: (pre ++ (pen, o6) :: ro2), p ∈ all) (ne : a ≠ I ∧ a ≠ C ∧ a ≠ D ∧ a ≠ pen) :
    LCg.CompEnd h₀ L m s₁ I oI C oC D oD (fun _ => True) (fun y nw' => tagJ pre pen ro lim (i + 1) (List.map Value.ref ts ++ [y]) nw') (.ref a) { s₁ with heap := h', toks := tk } :=
  LCg.CompEnd.intro F N (pre ++ (pen, o6) :: (a, ({ cls := .type "tuple", data := .seq vs.toArray } : Obj)) :: ro2) (fun p hp => by
      by_cases e : p = (a, ({ cls := .type "tuple", data := .seq vs.toArray } : Obj))
      · rw [e]; exact hm
      · refine sub p ?_
        simp only [List.mem_cons, List.mem_append] at hp ⊢
        rcases hp with h | h | h | h | h | h | h
        · exact .inl h
        · exact .inr (.inl h)
        · exact .inr (.inr (.inl h))
        · exact .inr (.inr (.inr (.inl h)))
        · exact .inr (.inr (.inr (.inr (.inl h))))
        · exact absurd h e
        · exact .inr (.inr (.inr (.inr (.inr h))))) (off3_app (q := (pen, o)) (q' := (pen, o6)) (a := (a, ({ cls := .type "tuple", data := .seq vs.toArray } : Obj))) ne.1 ne.2.1 ne.2.2.1 rfl off) trivial
    ⟨o6, _, ts ++ [a], tags ++ [t], rfl, P6.to (by lia), sub2.cons, List.forall_mem_cons.mpr ⟨ne.2.2.2, off02⟩, by simp, (hts.imp fun _ _ x => x.sub (Sub.refl _).cons).snoc ⟨vs, .head _, hv⟩, by simp [hlen], fun x hx => by
      rcases List.mem_append.mp hx with hx | hx
      · exact htags x hx
      · rw [List.mem_singleton.mp hx]; exact ht⟩
theorem four {d : Int} (h : 0 ≤ d) (h' : d < 4) : d = 0 ∨ d = 1 ∨ d = 2 ∨ d = 3 := by lia
noncomputable section
namespace automaton_ok
def St : Prop := ∀ {w : World} {k : Nat} {h₀ : Heap} {L : Addr} {A : Around} {m : Str → Option Value} {ro : List (Addr × Obj)} {s : Shared} {pen : Addr} {o : Obj} {lim : Int} {Q E : Value → Shared → Prop} (S : Sit w (k + 2) h₀ L A) (F : Fr h₀ L s.heap m) (N : News h₀ L s.heap ((pen, o) :: ro)) (hoff : ∀ p ∈ ro, p.1 ≠ pen) (P : PenAt o lim) (hl : lim ≤ 80) (ret : ∀ a h' tk' o' ro' rows tags, AutoOk rows tags → PenAt o' (lim + 14) → Fr h₀ L h' m → News h₀ L h' ((pen, o') :: ro') → (∀ p ∈ ro', p.1 ≠ pen) → Sub ro ro' → AutoAt ro' a rows tags → Q (.ref a) { s with heap := h', toks := tk' }),
    wpAny (MD w) A (call (.ref 848) [.ref pen]) Q E s
def G1 : {P : Addr → Obj → Int → Obj → Obj → World → Heap → Addr → Around → SOV → LAO → Shared → VSP → VSP → Nat → Nat → (Option (List Code)) → (List Env) → Around → Heap → (List Str) → EOV → SOV → SOV → Heap → Addr → Heap → Nat → Prop // (∀ pen o lim oc2 oc1 w h₀ L A m ro s Q E dp un gd outer A₀ base loose mean mg mb g L' h₁ tk, P pen o lim oc2 oc1 w h₀ L A m ro s Q E dp un gd outer A₀ base loose mean mg mb g L' h₁ tk) → St} := ⟨_, by
  intro hh w k h₀ L A m ro s pen o lim Q E S F N hoff P hl ret
  refine lessK S ?_
  clear S k; intro S
  refine fillK (w := w) ?_; k_fill; intro _ _
  k_dflt (refine enterC [(Str.ofString "pen", _)] S F N (by k_is) (by k_is) (fun _ _ => BindsTo.of_eq rfl) (by rfl) (by decide +kernel) rfl rfl rfl ?_)
  clear S F N
  intro dp un gd outer A₀ base loose mean mg mb g L' h₁ tk cells S B F X N Y lt T hd hu st
  (try k_lt lt); k_cells Y; (try simp only [List.cons_append, List.nil_append] at N); rename_i oc2 oc1 dc2 dc1
  rename_i ξ1 ξ2
  clear ξ1 ξ2
  revert hoff P hl ret S B F X T hd hu st lt dc2 dc1 N
  exact hh pen o lim oc2 oc1 w h₀ L A m ro s Q E dp un gd outer A₀ base loose mean mg mb g L' h₁ tk⟩
def R1 (ξ : Cx × (((Addr × Obj) × Int) × (Obj × Obj))) := fun pen o lim oc1 w ro L' tk => G1.1 pen o lim ξ.2.2.1 oc1 w ξ.1.h₀ ξ.1.L ξ.1.A ξ.1.m ro ξ.1.s ξ.1.Q ξ.1.E ξ.1.dp ξ.1.un ξ.1.gd ξ.1.outer ξ.1.A₀ ξ.1.base ξ.1.loose ξ.1.mean ξ.1.mg ξ.1.mb ξ.1.g L' ξ.1.h₁ tk
def P1 (ξ : Cx × (((Addr × Obj) × Int) × (Obj × Obj))) : Prop := R1 ξ ξ.2.1.1.1 ξ.2.1.1.2 ξ.2.1.2 ξ.2.2.2 ξ.1.w ξ.1.ro ξ.1.L' ξ.1.tk
@[irreducible] def z1 : Cx × (((Addr × Obj) × Int) × (Obj × Obj)) := ep P1 (by walk_at "ne")
@[irreducible] def pen := z1.2.1.1.1
@[irreducible] def o := z1.2.1.1.2
@[irreducible] def lim := z1.2.1.2
@[irreducible] def oc1 := z1.2.2.2
@[irreducible] def w := z1.1.w
@[irreducible] def ro := z1.1.ro
@[irreducible] def L' := z1.1.L'
@[irreducible] def tk := z1.1.tk
theorem m1 : R1 z1 pen o lim oc1 w ro L' tk := by
  intro hoff P hl ret S B F X T hd hu st lt dc2 dc1 N
  w_strict (
    refine fillK (w := w) ?_; k_fill; intro _ _
    with_reducible show wpAny _ _ _ _ _ _
    k_fold
    k_steps)
  rename_i o1 d t1 h1 tk1 P d0 d1 h2 o2 F2 N2 dc h3 tk3 t3 u3 v3 R3 F3 N3 ext3
  unfold Hold
  k_dflt (refine LCg.CompSrc.range rfl (by k_asm) (by k_asm) (by assumption) (small_one (by lia) (by lia) (by lia) (by lia)) (rangeSize_nat _ _) (by rw [PySem.sizeLine_eq]; lia) ?_)
  intro g'
  refine compRest_ind (rowJ _ _ pen ro (lim + 1) (2 + d)) ⟨o1, ro, [], [], rfl, P.to (by lia), Sub.refl _, hoff, off_le lt.2 (Nat.le_add_right _ 2), off_le lt.2 (Nat.le_add_right _ 1), rfl, .nil, rfl, nofun⟩ ?turn ?fin
  case' turn =>
    rintro i ys nw v I oI C oC D m₂ h tk E' hi ⟨o, ro', rs, rows, rfl, P', sub, off0, off1, off2, rfl, hrs, hlen, hrows⟩ ⟨tv, rfl⟩ hC hx F N off ne
    k_fold
    have hp := offAt (a := pen) (o := o) off (by k_mem)
    w_strict k_steps
    unfold Hold
    k_dflt (refine LCg.CompSrc.range rfl (by k_asm) (by k_asm) (by assumption) (by decide) (rangeSize_nat _ _) (by rw [PySem.sizeLine_eq]; decide) ?_)
    intro g2
    refine compRest_ind (cellJ [(I, oI), (C, oC), (D, LCg.lst (List.map Value.ref rs)), (L' + 1 + 1, o2), (L' + 1, oc1)] pen ro' (lim + 1 + 3 * i) (2 + d)) ⟨o, [], rfl, P'.to (by lia), .nil, rfl, nofun⟩ ?turn2 ?fin2
    case' turn2 =>
      rintro j zs nw v I2 oI2 C2 oC2 D2 m₃ h4 tk4 E4 hj ⟨o4, row, rfl, P4, hzs, hrl, hrow⟩ ⟨tv4, rfl⟩ hC4 hx4 F4 N4 offb neb
      k_fold
      simp only [List.cons_append, List.nil_append] at offb N4
      have hp2 := offAt (a := pen) (o := o4) offb (by k_mem)
      w_strict k_steps
      rename_i o6 d6 t6 h6 tk6 P6 p6 q6 F6 N6
      exact LCg.CompEnd.intro F6 N6 _ (fun _ h => h) offb trivial ⟨o6, row ++ [d6 - 1], rfl, P6.to (by lia), IntsAre.append hzs (.cons _ _ .nil), by simp [hrl], fun x hx => by
        rcases List.mem_append.mp hx with hx | hx
        · exact hrow x hx
        · rw [List.mem_singleton.mp hx]; lia⟩
    case fin2 =>
      rintro zs nw ⟨o5, row, rfl, P5, hzs, hrl, hrow⟩
      intro D5 h5 tk5 F5 N5 off5
      simp only [List.cons_append, List.nil_append] at off5 N5
      have hD : (@Ne Nat D5 I) ∧ (@Ne Nat D5 C) ∧ (@Ne Nat D5 D) := ⟨Ne.symm off5.1, Ne.symm off5.2.1, Ne.symm off5.2.2.1⟩
      have hD2 : (@Ne Nat D5 pen) ∧ (@Ne Nat D5 (L' + 1)) ∧ (@Ne Nat D5 (L' + 1 + 1)) := ⟨Ne.symm off5.2.2.2.2.2.1, Ne.symm off5.2.2.2.2.1, Ne.symm off5.2.2.2.1⟩
      refine LCg.CompEnd.intro F5 N5 ((L' + 1 + 1, o2) :: (L' + 1, oc1) :: (pen, o5) :: (D5, LCg.lst zs) :: ro') ?_ ⟨off.1, off.2.1, off.2.2.1, hD, off.2.2.2⟩ trivial
        ⟨o5, (D5, LCg.lst zs) :: ro', rs ++ [D5], rows ++ [row], rfl, ?_, sub.cons, List.forall_mem_cons.mpr ⟨hD2.1, off0⟩, List.forall_mem_cons.mpr ⟨hD2.2.2, off1⟩, List.forall_mem_cons.mpr ⟨hD2.2.1, off2⟩, by simp, ?_, by simp [hlen], ?_⟩
      · walk_at "sublist"
      · exact P5.to (by lia)
      · exact (hrs.imp fun _ _ x => x.sub (Sub.refl _).cons).snoc ⟨zs, ⟨_, .head _⟩, hzs⟩
      · intro r hr
        rcases List.mem_append.mp hr with hr | hr
        · exact hrows r hr
        · rw [List.mem_singleton.mp hr]; exact ⟨hrl, hrow⟩
  case' fin =>
    rintro ys nw ⟨o5, ro', rs, rows, rfl, P', sub, off0, off1, off2, rfl, hrs, hlen, hrows⟩
    intro D5 h5 tk5 F5 N5 off5
    (try dsimp only)
    clear F2 N2 F3 N3
    have hD5 : (@Ne Nat D5 pen) ∧ (@Ne Nat D5 (L' + 1)) ∧ (@Ne Nat D5 (L' + 1 + 1)) := ⟨Ne.symm off5.2.2.1, Ne.symm off5.2.1, Ne.symm off5.1⟩
    w_strict k_steps
  rename_i D6 h6a l6 lp h6b F6 N6 l7 h7 tk7 t7 u7 v7 R7 F7 N7 e7
  clear F6 N6
  unfold Hold
  k_dflt (refine LCg.CompSrc.range rfl (by k_asm) (by k_asm) (by assumption) (small_one (by lia) (by lia) (by lia) (by lia)) (rangeSize_nat _ _) (by rw [PySem.sizeLine_eq]; lia) ?_)
  intro g'
  refine compRest_ind (tagJ [(lp, W.listOf #[Value.ref D6] 0), (D6, { cls := Value.type "tuple", data := Data.seq #[] }), (D5, LCg.lst (List.map Value.ref rs)), (L' + 1 + 1, o2), (L' + 1, oc1)] pen ro' (lim + 10)) ⟨o5, ro', [], [], rfl, P'.to (by lia), Sub.refl _, off0, rfl, .nil, rfl, nofun⟩ ?turn3 ?fin3
  case' turn3 =>
    rintro i ys nw v I oI C oC D m₂ h tk E' hi ⟨o, ro2, ts, tags, rfl, P', sub2, off02, rfl, hts, hlen2, htags⟩ ⟨tv, rfl⟩ hC hx F N off ne
    k_fold
    simp only [List.cons_append, List.nil_append] at off N
    have hp := offAt (a := pen) (o := o) off (by k_mem)
    w_strict k_steps
    (obtain hd0 | hd0 | hd0 | hd0 := four (by assumption) (by assumption) <;> subst hd0 <;> w_strict k_steps)
    all_goals (
      refine tag_close (pre := [(lp, W.listOf #[Value.ref D6] 0), (D6, { cls := Value.type "tuple", data := Data.seq #[] }), (D5, LCg.lst (List.map Value.ref rs)), (L' + 1 + 1, o2), (L' + 1, oc1)]) hts sub2 off02 hlen2 htags off (by assumption) (by assumption) (by assumption) (by k_mem) (by first | exact .nil | exact .cons _ _ .nil | exact .cons _ _ (.cons _ _ .nil)) (by first | exact .inl rfl | exact .inr (.inl rfl) | exact .inr (.inr (.inl rfl)) | exact .inr (.inr (.inr rfl))) (by walk_at "sublist") ?n
      case n => exact ⟨(by k_ne), (by k_ne), (by k_ne), (by k_ne)⟩)
  case' fin3 =>
    rintro ys nw ⟨o8, ro3, ts, tags, rfl, P8, sub3, off3, rfl, hts, htl, htags⟩
    intro D8 h8 tk8 F8 N8 off8
    simp only [List.cons_append, List.nil_append] at off8 N8
    (try dsimp only)
    have htl2 := hts.length
    have hD8 : (@Ne Nat D8 pen) := Ne.symm off8.2.2.2.2.2.1
    w_strict k_steps
  rename_i p9 h9 l9 D9 h10 F10 N10 l10
  refine EndK.of F10 N10 ?_
  intro kF kN
  refine ret D9 _ _ o8 ((D9, ({ cls := .type "tuple", data := .seq #[.ref D5, .ref p9] } : Obj)) :: (p9, W.listOf ([Value.ref D6] ++ List.map Value.ref ts).toArray 0) :: (D6, { cls := Value.type "tuple", data := Data.seq #[] }) :: (D5, LCg.lst (List.map Value.ref rs)) :: ro3) rows ([] :: tags)
    ?ok (P8.to (by lia)) kF (PyProof.Rows.News.perm kN (by walk_at "sublist")) ?off ?sub ?auto
  case off =>
    refine List.forall_mem_cons.mpr ⟨(by k_ne), List.forall_mem_cons.mpr ⟨(by k_ne), List.forall_mem_cons.mpr ⟨(by k_ne), List.forall_mem_cons.mpr ⟨hD5.1, off3⟩⟩⟩⟩
  case sub => exact (sub.trans sub3).cons.cons.cons.cons
  case auto =>
    exact ⟨D5, p9, .head _, ⟨rs, ⟨_, .tail _ (.tail _ (.tail _ (.head _)))⟩, hrs.imp fun _ _ x => x.sub sub3.cons.cons.cons.cons⟩,
      ⟨D6 :: ts, ⟨0, .tail _ (.head _)⟩, .cons ⟨[], .tail _ (.tail _ (.head _)), .nil⟩ (hts.imp fun _ _ x => x.sub (Sub.refl _).cons.cons.cons.cons)⟩⟩
  case ok =>
    refine ⟨by lia, by lia, by simp only [List.length_cons]; lia, fun r hr => ⟨(hrows r hr).1, fun x hx => ⟨((hrows r hr).2 x hx).1, by have := ((hrows r hr).2 x hx).2; lia⟩⟩, rfl, fun t ht => ?_⟩
    rcases List.mem_cons.mp ht with rfl | ht
    · exact .inl rfl
    · exact htags t ht
end automaton_ok
end
theorem automaton_ok : automaton_ok.St := automaton_ok.G1.2 (fun pen o lim oc2 oc1 w h₀ L A m ro s Q E dp un gd outer A₀ base loose mean mg mb g L' h₁ tk => @ep_go _ automaton_ok.P1 _ _ (by with_unfolding_all exact automaton_ok.m1) ((⟨m, ro, Q, E, s, A, L, h₀, 0, w, dp, un, gd, outer, A₀, base, loose, mean, mg, mb, g, L', h₁, tk⟩ : Cx), (((pen, o), lim), (oc2, oc1))) (by kernel_rfl))
/-- a cut as _law_cut draws it -/
def CutOk (bh : Bool) (n : Int) : Prop := if bh = true then 0 ≤ n ∧ n ≤ 3 else (1 ≤ n ∧ n ≤ 4) ∨ (100 ≤ n ∧ n < 400)
def wayOf (bh : Bool) : Str := if bh = true then Str.ofString "behind" else Str.ofString "ahead"
inductive CutAt (ro : List (Addr × Obj)) (a : Addr) (bh : Bool) (n : Int) : Prop
  | mk : ∀ t u, (TupAt ro a [.str (wayOf bh) t, .int n u]) → CutAt ro a bh n
theorem CutAt.sub {r r' : List (Addr × Obj)} {a : Addr} {bh : Bool} {n : Int} (x : CutAt r a bh n) (s : Sub r r') : CutAt r' a bh n := let ⟨t, u, h⟩ := x; ⟨t, u, h.sub s⟩
noncomputable section
namespace cut_ok
def St : Prop := ∀ {w : World} {k : Nat} {h₀ : Heap} {L : Addr} {A : Around} {m : Str → Option Value} {ro : List (Addr × Obj)} {s : Shared} {pen : Addr} {o : Obj} {lim : Int} {Q E : Value → Shared → Prop} (S : Sit w (k + 2) h₀ L A) (F : Fr h₀ L s.heap m) (N : News h₀ L s.heap ((pen, o) :: ro)) (hoff : ∀ p ∈ ro, p.1 ≠ pen) (P : PenAt o lim) (hl : lim ≤ 80) (ret : ∀ a h' tk' o' ro' bh n, CutOk bh n → PenAt o' (lim + 2) → Fr h₀ L h' m → News h₀ L h' ((pen, o') :: ro') → (∀ p ∈ ro', p.1 ≠ pen) → Sub ro ro' → CutAt ro' a bh n → Q (.ref a) { s with heap := h', toks := tk' }),
    wpAny (MD w) A (call (.ref 855) [.ref pen]) Q E s
def G1 : {P : Addr → Obj → Int → World → Heap → Addr → Around → SOV → LAO → Shared → VSP → VSP → Nat → Nat → (Option (List Code)) → (List Env) → Around → Heap → (List Str) → EOV → SOV → SOV → Heap → Addr → Heap → Nat → Prop // (∀ pen o lim w h₀ L A m ro s Q E dp un gd outer A₀ base loose mean mg mb g L' h₁ tk, P pen o lim w h₀ L A m ro s Q E dp un gd outer A₀ base loose mean mg mb g L' h₁ tk) → St} := ⟨_, by
  intro hh w k h₀ L A m ro s pen o lim Q E S F N hoff P hl ret
  refine lessK S ?_
  clear S k; intro S
  refine fillK (w := w) ?_; k_fill; intro _ _
  k_dflt (refine enter [(Str.ofString "pen", _)] S F N (by k_is) (by k_is) (fun _ _ => BindsTo.of_eq rfl) (locs rfl) rfl rfl rfl (by decide) ?_)
  clear S F N
  intro dp un gd outer A₀ base loose mean mg mb g L' h₁ tk S B F X N lt T hd hu st
  rename_i ξ1 ξ2
  clear ξ1 ξ2
  revert hoff P hl ret S B F X N lt T hd hu st
  exact hh pen o lim w h₀ L A m ro s Q E dp un gd outer A₀ base loose mean mg mb g L' h₁ tk⟩
def R1 (ξ : Cx × ((Addr × Obj) × Int)) := fun w => G1.1 ξ.2.1.1 ξ.2.1.2 ξ.2.2 w ξ.1.h₀ ξ.1.L ξ.1.A ξ.1.m ξ.1.ro ξ.1.s ξ.1.Q ξ.1.E ξ.1.dp ξ.1.un ξ.1.gd ξ.1.outer ξ.1.A₀ ξ.1.base ξ.1.loose ξ.1.mean ξ.1.mg ξ.1.mb ξ.1.g ξ.1.L' ξ.1.h₁ ξ.1.tk
def P1 (ξ : Cx × ((Addr × Obj) × Int)) : Prop := R1 ξ ξ.1.w
@[irreducible] def z1 : Cx × ((Addr × Obj) × Int) := ep P1 (by walk_at "ne")
@[irreducible] def w := z1.1.w
theorem m1 : R1 z1 w := by
  intro hoff P hl ret S B F X N lt T hd hu st
  w_strict (
    refine fillK (w := w) ?_; k_fill; intro _ _
    k_fold
    k_steps)
  all_goals (
    rename_i D9 h9 F9 N9 l9
    refine EndK.of F9 N9 ?_
    intro kF kN)
  · refine ret D9 _ _ _ _ true _ ?ok ?P kF (newsSwap kN) ?off (Sub.refl _).cons ⟨_, _, .head _⟩
    case ok => exact ⟨by lia, by lia⟩
    case P => exact PenAt.to (by assumption) (by lia)
    case off => exact List.forall_mem_cons.mpr ⟨(by k_ne), hoff⟩
  · refine ret D9 _ _ _ _ true _ ?ok ?P kF (newsSwap kN) ?off (Sub.refl _).cons ⟨_, _, .head _⟩
    case ok => exact ⟨by lia, by lia⟩
    case P => exact PenAt.to (by assumption) (by lia)
    case off => exact List.forall_mem_cons.mpr ⟨(by k_ne), hoff⟩
  · refine ret D9 _ _ _ _ false _ ?ok ?P kF (newsSwap kN) ?off (Sub.refl _).cons ⟨_, _, .head _⟩
    case ok => exact .inl ⟨by lia, by lia⟩
    case P => exact PenAt.to (by assumption) (by lia)
    case off => exact List.forall_mem_cons.mpr ⟨(by k_ne), hoff⟩
  · refine ret D9 _ _ _ _ false _ ?ok ?P kF (newsSwap kN) ?off (Sub.refl _).cons ⟨_, _, .head _⟩
    case ok => exact .inr ⟨by lia, by lia⟩
    case P => exact PenAt.to (by assumption) (by lia)
    case off => exact List.forall_mem_cons.mpr ⟨(by k_ne), hoff⟩
end cut_ok
end
theorem cut_ok : cut_ok.St := cut_ok.G1.2 (fun pen o lim w h₀ L A m ro s Q E dp un gd outer A₀ base loose mean mg mb g L' h₁ tk => @ep_go _ cut_ok.P1 _ _ (by with_unfolding_all exact cut_ok.m1) ((⟨m, ro, Q, E, s, A, L, h₀, 0, w, dp, un, gd, outer, A₀, base, loose, mean, mg, mb, g, L', h₁, tk⟩ : Cx), ((pen, o), lim)) (by kernel_rfl))
def bodyOf (bh : Bool) (n many : Int) : Int := if bh = true then many - n else n
theorem body_ok {w : World} {k : Nat} {h₀ : Heap} {L : Addr} {A : Around} {m : Str → Option Value} {news : List (Addr × Obj)} {s : Shared} {c : Addr} {bh : Bool} {n many : Int} {tm : Tok} {Q E : Value → Shared → Prop}
    (S : Sit w (k + 1) h₀ L A) (F : Fr h₀ L s.heap m) (N : News h₀ L s.heap news) (C : CutAt news c bh n)
    (ret : ∀ t h' tk', Fr h₀ L h' m → News h₀ L h' news → Q (.int (bodyOf bh n many) t) { s with heap := h', toks := tk' }) :
    wpAny (MD w) A (call (.ref 862) [.ref c, .int many tm]) Q E s := by
  obtain ⟨t, u, C⟩ := C
  cases bh
  all_goals (
    dsimp only [TupAt, wayOf] at C
    try simp only [if_true, if_false, Bool.false_eq_true] at C
    w_strict (
      refine fillK (w := w) ?_; k_fill; intro _ _
      k_dflt (refine enter [(Str.ofString "cut", _), (Str.ofString "many", _)] S F N (by k_is) (by k_is) (fun _ _ => BindsTo.of_eq rfl) (locs rfl) rfl rfl rfl (by decide) ?_)
      clear S F N
      intro dp un gd outer A₀ base loose mean mg mb g L' h₁ tk S B F X N lt T hd hu st
      k_fold
      k_steps)
    refine EndK.of (by assumption) (by assumption) ?_
    intro kF kN
    exact ret _ _ _ kF kN)
def headOf (number : Int) : Str := if number = 0 then Str.ofString "--accepting rule 0" else if number = 1 then Str.ofString "--accepting rule 1" else Str.ofString "--accepting default rule"
def lineOf (text : Str) (number b e : Int) : Str := headOf number ++ Str.ofString " (\"" ++ PySem.Txt.slice text (some b) (some e) ++ Str.ofString "\")"
theorem line_ok {w : World} {k : Nat} {h₀ : Heap} {L : Addr} {A : Around} {m : Str → Option Value} {news : List (Addr × Obj)} {s : Shared} {c : Addr} {number b e : Int} {t1 t2 t3 tx : Tok} {text : Str} {Q E : Value → Shared → Prop}
    (S : Sit w (k + 1) h₀ L A) (F : Fr h₀ L s.heap m) (N : News h₀ L s.heap news) (C : TupAt news c [.int number t1, .int b t2, .int e t3]) (hn : number = -1 ∨ number = 0 ∨ number = 1) (hb : 0 ≤ b) (hbe : b ≤ e) (he : e ≤ 8) (hx : text.length ≤ 8)
    (ret : ∀ t h' tk', Fr h₀ L h' m → News h₀ L h' news → Q (.str (lineOf text number b e) t) { s with heap := h', toks := tk' }) :
    wpAny (MD w) A (call (.ref 883) [.ref c, .str text tx]) Q E s := by
  rcases hn with rfl | rfl | rfl
  all_goals (
    dsimp only [TupAt, wayOf] at C
    w_strict (
      refine fillK (w := w) ?_; k_fill; intro _ _
      k_dflt (refine enter [(Str.ofString "turn", _), (Str.ofString "text", _)] S F N (by k_is) (by k_is) (fun _ _ => BindsTo.of_eq rfl) (locs rfl) rfl rfl rfl (by decide) ?_)
      clear S F N
      intro dp un gd outer A₀ base loose mean mg mb g L' h₁ tk S B F X N lt T hd hu st
      k_fold
      k_steps))
  all_goals (
    (try dsimp only)
    refine EndK.of (by assumption) (by assumption) ?_
    intro kF kN
    exact ret _ _ _ kF kN)
local macro_rules | `(tactic| walk_at "exec For") => pure (κwa "xF")
local macro_rules | `(tactic| walk_at "pyIter ref") => pure (κhol)
inductive WhileEnd (h₀ : Heap) (L : Addr) (J : Nat → (Str → Option Value) → List (Addr × Obj) → Prop) (n : Nat) (s : Shared) (s₃ : Shared) : Prop
  | mk : ∀ h' tk m₂ news₂ n', (s₃ = { s with heap := h', toks := tk }) → (Fr h₀ L h' m₂) → (News h₀ L h' news₂) → (n' < n) → (J n' m₂ news₂) → WhileEnd h₀ L J n s s₃
theorem WhileEnd.of {h₀ h' : Heap} {L : Addr} {J : Nat → (Str → Option Value) → List (Addr × Obj) → Prop} {n tk : Nat} {s : Shared} {m₂ : Str → Option Value} {all : List (Addr × Obj)} (n' : Nat) (news₂ : List (Addr × Obj)) (F : Fr h₀ L h' m₂) (N : News h₀ L h' all)
    (sub : ∀ p ∈ news₂, p ∈ all) (hn : n' < n) (j : J n' m₂ news₂) : WhileEnd h₀ L J n s { s with heap := h', toks := tk } := ⟨h', tk, m₂, news₂, n', rfl, F, PyProof.Rows.News.perm N sub, hn, j⟩
/-- a while: J stands before each test, with a measure -/
def WhilePost (h₀ : Heap) (L : Addr) (J : Nat → (Str → Option Value) → List (Addr × Obj) → Prop) (n : Nat) (Q : Flow → Shared → Prop) (s : Shared) (f : Flow) (s₃ : Shared) : Prop :=
  match f with
  | .ret v => Q (.ret v) s₃
  | .brk => Q .next s₃
  | _ => WhileEnd h₀ L J n s s₃
section
variable {prog : Program} {w : World} {A : Around} {E : Value → Shared → Prop} {Q : Flow → Shared → Prop} {s : Shared} {env : Env} {h₀ : Heap} {L : Addr}
inductive WhileGo (prog : Program) (w : World) (A : Around) (h₀ : Heap) (L : Addr) (E : Value → Shared → Prop) (env : Env) (test : Expr) (body : List Stmt) (Q : Flow → Shared → Prop) (s : Shared) : Prop
  | mk : ∀ (m : Str → Option Value) (news : List (Addr × Obj)) (J : Nat → (Str → Option Value) → List (Addr × Obj) → Prop) (n₀ : Nat), (Fr h₀ L s.heap m) → (News h₀ L s.heap news) → (J n₀ m news) → (∀ n m₁ news₁ h₁ tk₁, Fr h₀ L h₁ m₁ → News h₀ L h₁ news₁ → J n m₁ news₁ →
      wpAny (model prog w) A (isTrue test env (eval test env)) (fun b s₂ =>
        if b = true then wpAny (model prog w) A (execs body env) (WhilePost h₀ L J n Q s) E s₂ else Q .next s₂) E { s with heap := h₁, toks := tk₁ }) → WhileGo prog w A h₀ L E env test body Q s
theorem WhileGo.intro {test : Expr} {body : List Stmt} {m : Str → Option Value} {news : List (Addr × Obj)} (J : Nat → (Str → Option Value) → List (Addr × Obj) → Prop) (n₀ : Nat)
    (F : Fr h₀ L s.heap m) (N : News h₀ L s.heap news) (hJ : J n₀ m news)
    (turn : ∀ n m₁ news₁ h₁ tk₁, Fr h₀ L h₁ m₁ → News h₀ L h₁ news₁ → J n m₁ news₁ →
      wpAny (model prog w) A (isTrue test env (eval test env)) (fun b s₂ =>
        if b = true then wpAny (model prog w) A (execs body env) (WhilePost h₀ L J n Q s) E s₂ else Q .next s₂) E { s with heap := h₁, toks := tk₁ }) :
    WhileGo prog w A h₀ L E env test body Q s := ⟨m, news, J, n₀, F, N, hJ, turn⟩
theorem whileL {test : Expr} {body : List Stmt} {pos : Pos} {m : Str → Option Value} (_F : Fr h₀ L s.heap m) (g : WhileGo prog w A h₀ L E env test body Q s)
    (hE : PassesOwn (model prog w) A env E) :
    wpAny (model prog w) A (exec (.While test body [] pos) env) Q E s := by
  obtain ⟨m, news, J, n₀, F, N, hJ, turn⟩ := g
  refine While_inv2 J F N hJ (fun n m₁ nw h₁ tk a b c => wpAny_mono (turn n m₁ nw h₁ tk a b c) (fun ok _ q => ?_) fun _ _ e => e) hE
  cases ok
  · exact q
  · refine wpAny_mono q (fun f _ r => ?_) fun _ _ e => e
    cases f <;> first | exact r | (obtain ⟨h', tk, m₂, nw₂, n', e, F₂, N₂, hn, J₂⟩ := r; exact ⟨h', tk, m₂, nw₂, n', e, F₂, N₂, hn, J₂⟩)
end
local macro_rules | `(tactic| walk_at "exec While") => pure (κwa "xW")
local macro_rules | `(tactic| walk_at "exec While BoolOp") => pure (κwa "xW")
local macro_rules | `(tactic| walk_at "exec While Compare") => pure (κwa "xW")
local macro_rules | `(tactic| walk_at "last exec While") => pure (κwa "xW")
local macro_rules | `(tactic| walk_at "exec While Constant") => pure (κwa "xW")
local macro_rules | `(tactic| walk_at "WhilePost") => pure (κdsm [`WhilePost] none)
local macro_rules | `(tactic| walk_at "same locals") => pure ((κpa [(κta `tacticFunext___ "funext" [κnu [(κi `y)]]), (κtr [(κdsm [`up] none)]), (κnd `Lean.Parser.Tactic.«tactic_<;>_» [(κta `Lean.Parser.Tactic.repeat' "repeat'" [(κnd `Lean.Parser.Tactic.tacticSeq [(κnd `Lean.Parser.Tactic.tacticSeq1Indented [κnu [(κta `Lean.Parser.Tactic.split "split" [κnu [], κnu []])]])])]), κtm "<;>", (κtO [κrfs, (κta `Lean.Parser.Tactic.contradiction "contradiction" []), (κpa [(κta `Lean.Parser.Tactic.substVars "subst_vars" []), (κtO [κrfs, (κta `Lean.Parser.Tactic.contradiction "contradiction" []), (κpa [(κta `Lean.Parser.Tactic.tacticExfalso "exfalso" []), (κta `Lean.Parser.Tactic.revert "revert" [κnu [(κta `«term‹_›» "‹" [(κnd `«term_=_» [(κap `Str.ofString [κh_]), κtm "=", (κap `Str.ofString [κh_])]), κtm "›"])]]), κde])])])])])]))
section
variable {prog : Program} {w : World} {A : Around} {E : Value → Shared → Prop} {s : Shared} {h₀ : Heap} {L : Addr} {m : Str → Option Value} {news : List (Addr × Obj)}
theorem adjust_back (n : Nat) : Builtin.Slice.sliceAdjust none none (-1) (n : Int) = ((n : Int) - 1, -1) := by
  unfold Builtin.Slice.sliceAdjust
  simp
theorem places_back (n : Nat) : Builtin.Slice.slicePlaces ((n : Int) - 1) (-1) (-1) = n := by
  unfold Builtin.Slice.slicePlaces
  have h1 : ¬ ((-1 : Int) > 0) := by decide
  simp only [h1, if_false]
  by_cases h : (n : Int) - 1 > -1
  · rw [if_pos h, show (-(-1) : Int) = 1 by decide, Int.ediv_one]; lia
  · rw [if_neg h]; lia
theorem sliceApplied_back {sl : Addr} {n : Nat} {u : Tok} {Q : Int × Int × Nat → Shared → Prop} (hs : s.heap.IsSliceOf sl .none .none (.int (-1) u)) (h : Q ((n : Int) - 1, -1, n) s) :
    wpAny (model prog w) A (Builtin.Slice.sliceApplied (.ref sl) (pure (n : Int))) Q E s := by
  obtain ⟨os, hos, hcs, hds⟩ := id hs
  unfold Builtin.Slice.sliceApplied Builtin.Slice.sliceFields
  refine wpAny_bind (wpAny_bind (wpAny_field hos hds (x := .none) rfl (wpAny_bind (wpAny_field hos hds (x := .none) rfl (wpAny_bind (wpAny_field hos hds (x := .int (-1) u) rfl (wpAny_pure ?_)))))))
  refine wpAny_bind (slicePart_int ?_)
  show wpAny _ _ (if ((-1 : Int) == 0) = true then _ else _) _ _ s
  rw [if_neg (by decide)]
  refine wpAny_bind (slicePart_none (wpAny_bind (slicePart_none (wpAny_bind (wpAny_pure ?_)))))
  show wpAny _ _ (match Builtin.Slice.sliceAdjust none none (-1) (n : Int) with | (lo, hi) => pure (lo, (-1 : Int), Builtin.Slice.slicePlaces lo hi (-1))) _ _ s
  rw [adjust_back n]
  show wpAny _ _ (pure ((n : Int) - 1, (-1 : Int), Builtin.Slice.slicePlaces ((n : Int) - 1) (-1) (-1))) _ _ s
  rw [places_back n]
  exact wpAny_pure h
theorem pick_back (vs : List Value) (h : vs.length ≤ 2) : ((List.range vs.toArray.size).filterMap fun (k : Nat) => vs.toArray[(((vs.toArray.size : Nat) : Int) - 1 + (k : Int) * (-1)).toNat]?).toArray = vs.reverse.toArray := by
  rcases vs with _ | ⟨a, _ | ⟨b, _ | ⟨c, r⟩⟩⟩
  · rfl
  · rfl
  · rfl
  · exact absurd h (Nat.not_le.mpr (Nat.le_add_left 3 _))
theorem getItem_tuple_back {t sl : Addr} {vs : List Value} {u : Tok} {Q : Value → Shared → Prop} (ht : IsTup s.heap t vs.toArray) (hs : s.heap.IsSliceOf sl .none .none (.int (-1) u)) (hl : vs.length ≤ 2)
    (h : Q (.ref s.heap.objs.size) { s with heap := s.heap.push { cls := .type "tuple", data := .seq vs.reverse.toArray } }) : wpAny (model prog w) A (getItem (.ref t) (.ref sl)) Q E s := by
  have hdrop : sizeOk (.seq vs.reverse.toArray) := by
    show vs.reverse.toArray.size ≤ sizeLine
    rw [List.size_toArray, List.length_reverse, PySem.sizeLine_eq]
    lia
  obtain ⟨os, hos, hcs, hds⟩ := id hs
  have hTs : s.TypeIs (.ref sl) "slice" := ⟨os, hos, hcs⟩
  unfold getItem
  try with_reducible refine wpAny_holding ?_
  first | refine wpAny_bind (wpAny_pure ?_) | skip
  refine wpAny_bind (wpAny_sequenceKey ht.typeIs (by decide) ?_)
  refine wpAny_bind (wpAny_callSpecial?_slot (name := Str.ofString "__getitem__") ht.typeIs slot_tuple_getitem
    (wpAny_call_entry slot_tuple_getitem ht.typeIs entry_tuple_getitem ?_ (args_tuple_getitem _ _)))
  show wpAny _ _ (Builtin.Tuple.tupleItemsOf (.ref t) >>= _) _ _ s
  refine wpAny_bind (tupleItemsOf_ ht ?_)
  refine wpAny_bind (wpAny_typeOf hTs ?_)
  rw [if_pos (by decide)]
  refine wpAny_bind (sliceApplied_back (n := vs.toArray.size) hs ?_)
  have hno : ¬ (((((vs.toArray.size : Nat) : Int) - 1) == 0 && (-1 : Int) == 1 && vs.toArray.size == vs.toArray.size) = true) := by
    have : ((-1 : Int) == 1) = false := by decide
    rw [this]; simp
  show wpAny _ _ (if ((((vs.toArray.size : Nat) : Int) - 1) == 0 && (-1 : Int) == 1 && vs.toArray.size == vs.toArray.size) = true then _ else _) _ _ s
  rw [if_neg hno, pick_back vs hl]
  first
    | exact wpAny_bind (m := Builtin.Tuple.tupleExact _) (wpAny_newObj_type (wpAny_pure ⟨_, rfl, wpAny_pure h⟩) hdrop)
    | exact wpAny_bind (m := Builtin.Tuple.tupleExact _) (wpAny_newObj_type (wpAny_bind (wpAny_pure (wpAny_pure ⟨_, rfl, wpAny_pure h⟩))) hdrop)
    | exact wpAny_bind (wpAny_bind (m := Builtin.Tuple.tupleExact _) (wpAny_newObj_type (wpAny_pure (wpAny_pure ⟨_, rfl, wpAny_pure h⟩)) hdrop))
    | exact wpAny_bind (wpAny_bind (m := Builtin.Tuple.tupleExact _) (wpAny_newObj_type (wpAny_pure ⟨_, rfl, wpAny_pure h⟩) hdrop))
theorem slice_back {value slice : Expr} {t : Addr} {vs : List Value} {u : Tok} {Q : Value → Shared → Prop} {ops : List Value}
    (F : Fr h₀ L s.heap m) (N : News h₀ L s.heap news) (hm : (t, ({ cls := .type "tuple", data := .seq vs.toArray } : Obj)) ∈ news) (hl : vs.length ≤ 2)
    (h : ∀ p h', Fr h₀ L h' m → News h₀ L h' ((p, { cls := .type "tuple", data := .seq vs.reverse.toArray }) :: news) → (∀ q ∈ news, q.1 < p) → Q (.ref p) { s with heap := h' })
    (hs : subscripted slice false (.ref t) (.ref s.heap.objs.size) = operate ops (getItem (.ref t) (.ref s.heap.objs.size)))
    (hg : ∀ r, letTemporaryGo value (.ref t) r = pure ()) :
    wpAny (model prog w) A (subscriptTail value slice (.ref t) (.ref s.heap.objs.size)) Q E { s with heap := s.heap.push { cls := .type "slice", data := .fields #[.none, .none, .int (-1) u] } } := by
  have ht : IsTup s.heap t vs.toArray := News.isTup N hm
  have ht' : IsTup (s.heap.push { cls := .type "slice", data := .fields #[.none, .none, .int (-1) u] }) t vs.toArray := ht.keeps fun _ _ e => Heap.get?_push_of_some _ e
  refine subscriptTail_ops (s := { s with heap := s.heap.push { cls := .type "slice", data := .fields #[.none, .none, .int (-1) u] } }) ht'.typeIs slot_tuple_getitem.lookup
    (getItem_tuple_back ht' (Heap.IsSliceOf.new ..) hl ?_) hs hg
  have N1 := News.push (F.push { cls := .type "slice", data := .fields #[.none, .none, .int (-1) u] }) (N.grown fun _ _ e => Heap.get?_push_of_some _ e) { cls := .type "tuple", data := .seq vs.reverse.toArray }
  exact h _ _ ((F.push _).push _) N1 fun q hq => by
    show q.1 < (s.heap.push _).objs.size
    rw [Heap.size_push]
    exact Nat.lt_succ_of_lt (Heap.lt_size (N q hq).1)
end
local macro_rules | `(tactic| walk_at "subscriptTail") => pure (κtC (κap `subscriptTail [κh_, (κap `PySem.Expr.Slice [(κi `none), (κi `none), (κap `some [κh_]), κh_]), κgr, κgr]) (κtL (κtA `slice_back [κqa, κqa, κqm, (κbyT (κtO [κas, (κex (κap `Nat.le_of_ble_eq_true [(κi `rfl)]))])), κq0, κqu, κqi])))
def stepD (cuts : Int → Bool × Int) (pos len : Int) (fd : Int × Int) (number : Int) : Int × Int :=
  if 0 < bodyOf (cuts number).1 (cuts number).2 len ∧ bodyOf (cuts number).1 (cuts number).2 len ≤ len then (number, pos + bodyOf (cuts number).1 (cuts number).2 len) else fd
def stepR (rows : List (List Int)) (st : Int) (c : Nat) : Int := ((rows[st.toNat]?).bind (·[c]?)).getD (-1)
def tagR (tags : List (List Int)) (st : Int) : List Int := if 0 ≤ st then (tags[st.toNat]?).getD [] else []
def chooseD (rows tags : List (List Int)) (cuts : Int → Bool × Int) (pos : Int) : List Nat → Int → Int → Int × Int → Int × Int
  | [], _, _, fd => fd
  | c :: r, st, len, fd => if st < 0 then fd else chooseD rows tags cuts pos r (stepR rows st c) (len + 1) ((tagR tags (stepR rows st c)).reverse.foldl (stepD cuts pos (len + 1)) fd)
def cpOf (c : Nat) : Nat := if c = 1 then 97 else if c = 2 then 98 else 10
def textOf (cs : List Nat) : Str := ⟨(cs.map cpOf).toArray⟩
inductive CutsAt (ro : List (Addr × Obj)) (a : Addr) (cuts : Int → Bool × Int) : Prop
  | mk : ∀ c0 c1, (ListAt ro a [.ref c0, .ref c1]) → (CutAt ro c0 (cuts 0).1 (cuts 0).2) → (CutAt ro c1 (cuts 1).1 (cuts 1).2) → CutsAt ro a cuts
inductive chJ (ro : List (Addr × Obj)) (rows tags : List (List Int)) (cuts : Int → Bool × Int) (cs : List Nat) (pos : Nat) (base : Str → Option Value) (n : Nat) (m : Str → Option Value) (nw : List (Addr × Obj)) : Prop
  | mk : ∀ (e : Nat) (st fn fe : Int) (fa : Addr) (t1 t2 t3 t4 : Tok) (u : Option Value), (n + e = cs.length) → (pos ≤ e) → (chooseD rows tags cuts pos (cs.drop e) st ((e - pos : Nat) : Int) (fn, fe) = chooseD rows tags cuts pos (cs.drop pos) 0 0 (-1, (pos : Int) + 1)) → (-1 ≤ st) → (st < rows.length) → (Sub ro nw) → (TupAt nw fa [.int fn t1, .int fe t2]) → (m = up (Str.ofString "number") u (up (Str.ofString "found") (some (.ref fa)) (up (Str.ofString "state") (some (.int st t3)) (up (Str.ofString "end") (some (.int e t4)) base)))) → chJ ro rows tags cuts cs pos base n m nw
theorem numbers_at {w : World} {A : Around} {h₀ : Heap} {L : Addr} {m : Str → Option Value} {s : Shared} {c : Nat} {t : Tok} {value slice : Expr} {Q E : Value → Shared → Prop} (F : Fr h₀ L s.heap m) (X : (KM w.params).In h₀) (hc : c < 3)
    (h : ∀ t', Q (.int (c : Int) t') { s with toks := s.toks + 1 })
    (hs : subscripted slice false (.ref 829) (.str ⟨#[cpOf c]⟩ t) = operate [.ref 829, .str ⟨#[cpOf c]⟩ t] (getItem (.ref 829) (.str ⟨#[cpOf c]⟩ t)) := by with_unfolding_all rfl) :
    wpAny (MD w) A (subscriptTail value slice (.ref 829) (.str ⟨#[cpOf c]⟩ t)) Q E s := by
  refine fillK (w := w) ?_
  k_fill
  intro _ _
  obtain rfl | rfl | rfl : c = 0 ∨ c = 1 ∨ c = 2 := by lia
  · exact topItem_K F X (by k_is) (by k_keys) (show nsIn (KM w.params) 829 (Str.ofString "\n") = _ by k_is) (h _) hs
  · exact topItem_K F X (by k_is) (by k_keys) (show nsIn (KM w.params) 829 (Str.ofString "a") = _ by k_is) (h _) hs
  · exact topItem_K F X (by k_is) (by k_keys) (show nsIn (KM w.params) 829 (Str.ofString "b") = _ by k_is) (h _) hs
local macro_rules | `(tactic| walk_at "subscriptTail") => pure (κpa [κtC (κap `subscriptTail [κh_, κh_, κgr, (κap `Value.str [(κta `Lean.Parser.Term.anonymousCtor "⟨" [κnu [(κta `«term#[_,]» "#[" [κnu [(κap `cpOf [κh_])], κtm "]"])], κtm "⟩"]), κh_])]) (κtA `numbers_at [κqa, κqa, κqb, κq0, κqu]), κins])
local macro_rules | `(tactic| walk_at "call ref") => pure (κtB `body_ok [(κsub `CutAt.sub)])
inductive inJ (nw0 : List (Addr × Obj)) (cuts : Int → Bool × Int) (pos len : Int) (tg : List Int) (R : Int × Int) (base : Str → Option Value) (i : Nat) (m : Str → Option Value) (nw : List (Addr × Obj)) : Prop
  | mk : ∀ (fn fe : Int) (fa : Addr) (t1 t2 : Tok) (u : Option Value), (Sub nw0 nw) → (TupAt nw fa [.int fn t1, .int fe t2]) → ((tg.drop i).foldl (stepD cuts pos len) (fn, fe) = R) → (m = up (Str.ofString "number") u (up (Str.ofString "found") (some (.ref fa)) base)) → inJ nw0 cuts pos len tg R base i m nw
theorem drop_get {α : Type} {l : List α} {i : Nat} {x : α} (h : l[i]? = some x) : l.drop i = x :: l.drop (i + 1) := by
  obtain ⟨hi, e⟩ := List.getElem?_eq_some_iff.mp h
  rw [List.drop_eq_getElem_cons hi, e]
theorem fold_at {cuts : Int → Bool × Int} {pos len : Int} {tg : List Int} {i : Nat} {nv : Int} {fd fd' R : Int × Int} (h : tg[i]? = some nv) (e : stepD cuts pos len fd nv = fd') (hR : (tg.drop i).foldl (stepD cuts pos len) fd = R) :
    (tg.drop (i + 1)).foldl (stepD cuts pos len) fd' = R := by
  rw [drop_get h, List.foldl_cons, e] at hR
  exact hR
theorem fold_end {cuts : Int → Bool × Int} {pos len : Int} {tg : List Int} {n : Nat} {fd R : Int × Int} (h : tg.length = n) (hR : (tg.drop n).foldl (stepD cuts pos len) fd = R) : fd = R := by
  rw [List.drop_of_length_le (Nat.le_of_eq h)] at hR
  exact hR
theorem choose_step {rows tags : List (List Int)} {cuts : Int → Bool × Int} {cs : List Nat} {pos e c : Nat} {st nx : Int} {row : List Int} {fd fd' R : Int × Int} (hpe : pos ≤ e) (hc : cs[e]? = some c) (h0 : 0 ≤ st) (hrow : rows[st.toNat]? = some row) (hnx : row[c]? = some nx)
    (hf : fd' = (tagR tags nx).reverse.foldl (stepD cuts pos ((e : Int) + 1 - pos)) fd) (hR : chooseD rows tags cuts pos (cs.drop e) st ((e - pos : Nat) : Int) fd = R) :
    chooseD rows tags cuts pos (cs.drop (e + 1)) nx ((e + 1 - pos : Nat) : Int) fd' = R := by
  rw [drop_get hc] at hR
  have e1 : stepR rows st c = nx := by simp [stepR, hrow, hnx]
  have e2 : (((e - pos : Nat) : Int) + 1) = (e : Int) + 1 - pos := by lia
  have e3 : ((e + 1 - pos : Nat) : Int) = (e : Int) + 1 - pos := by lia
  unfold chooseD at hR
  rw [if_neg (by lia), e1, e2, ← hf] at hR
  rw [e3]
  exact hR
noncomputable section
namespace choice_ok
def St : Prop := ∀ {w : World} {k : Nat} {h₀ : Heap} {L : Addr} {A : Around} {m : Str → Option Value} {ro : List (Addr × Obj)} {s : Shared} {au cu : Addr} {rows tags : List (List Int)} {cuts : Int → Bool × Int} {cs : List Nat} {tx ta : Tok} {pos : Nat} {Q E : Value → Shared → Prop} (S : Sit w (k + 2) h₀ L A) (F : Fr h₀ L s.heap m) (N : News h₀ L s.heap ro) (AA : AutoAt ro au rows tags) (AO : AutoOk rows tags) (CA : CutsAt ro cu cuts) (hx : cs.length ≤ 8) (hcs : ∀ c ∈ cs, c < 3) (hp8 : pos < cs.length) (ret : ∀ a h' tk' ro' t1 t2, Fr h₀ L h' m → News h₀ L h' ro' → Sub ro ro' → TupAt ro' a [.int (chooseD rows tags cuts pos (cs.drop pos) 0 0 (-1, (pos : Int) + 1)).1 t1, .int (chooseD rows tags cuts pos (cs.drop pos) 0 0 (-1, (pos : Int) + 1)).2 t2] → Q (.ref a) { s with heap := h', toks := tk' }),
    wpAny (MD w) A (call (.ref 869) [.ref au, .ref cu, .str (textOf cs) tx, .int pos ta]) Q E s
def G1 : {P : Addr → Addr → (List (List Int)) → (List (List Int)) → (Int → Bool × Int) → (List Nat) → Tok → Tok → Nat → World → Heap → Addr → Around → SOV → LAO → Shared → VSP → VSP → Nat → Nat → (Option (List Code)) → (List Env) → Around → Heap → (List Str) → EOV → SOV → SOV → Heap → Addr → Heap → Nat → Prop // (∀ au cu rows tags cuts cs tx ta pos w h₀ L A m ro s Q E dp un gd outer A₀ base loose mean mg mb g L' h₁ tk, P au cu rows tags cuts cs tx ta pos w h₀ L A m ro s Q E dp un gd outer A₀ base loose mean mg mb g L' h₁ tk) → St} := ⟨_, by
  intro hh w k h₀ L A m ro s au cu rows tags cuts cs tx ta pos Q E S F N AA AO CA hx hcs hp8 ret
  refine lessK S ?_
  clear S k; intro S
  have hlen : (textOf cs).length = cs.length := by simp [textOf, Str.length]
  refine fillK (w := w) ?_; k_fill; intro _ _
  k_dflt (refine enter [(Str.ofString "automaton", _), (Str.ofString "cuts", _), (Str.ofString "text", _), (Str.ofString "at", _)] S F N (by k_is) (by k_is) (fun _ _ => BindsTo.of_eq rfl) (locs rfl) rfl rfl rfl (by decide) ?_)
  clear S F N
  intro dp un gd outer A₀ base loose mean mg mb g L' h₁ tk S B F X N lt T hd hu st
  rename_i ξ1 ξ2
  clear ξ1 ξ2
  revert AA AO CA hx hcs hp8 ret hlen S B F X N lt T hd hu st
  exact hh au cu rows tags cuts cs tx ta pos w h₀ L A m ro s Q E dp un gd outer A₀ base loose mean mg mb g L' h₁ tk⟩
def R1 (ξ : Cx × ((((Addr × Addr) × (List (List Int))) × ((List (List Int)) × (Int → Bool × Int))) × (((List Nat) × Tok) × (Tok × Nat)))) := fun au cu rows tags cuts cs tx ta pos w m ro => G1.1 au cu rows tags cuts cs tx ta pos w ξ.1.h₀ ξ.1.L ξ.1.A m ro ξ.1.s ξ.1.Q ξ.1.E ξ.1.dp ξ.1.un ξ.1.gd ξ.1.outer ξ.1.A₀ ξ.1.base ξ.1.loose ξ.1.mean ξ.1.mg ξ.1.mb ξ.1.g ξ.1.L' ξ.1.h₁ ξ.1.tk
def P1 (ξ : Cx × ((((Addr × Addr) × (List (List Int))) × ((List (List Int)) × (Int → Bool × Int))) × (((List Nat) × Tok) × (Tok × Nat)))) : Prop := R1 ξ ξ.2.1.1.1.1 ξ.2.1.1.1.2 ξ.2.1.1.2 ξ.2.1.2.1 ξ.2.1.2.2 ξ.2.2.1.1 ξ.2.2.1.2 ξ.2.2.2.1 ξ.2.2.2.2 ξ.1.w ξ.1.m ξ.1.ro
@[irreducible] def z1 : Cx × ((((Addr × Addr) × (List (List Int))) × ((List (List Int)) × (Int → Bool × Int))) × (((List Nat) × Tok) × (Tok × Nat))) := ep P1 (by walk_at "ne")
@[irreducible] def au := z1.2.1.1.1.1
@[irreducible] def cu := z1.2.1.1.1.2
@[irreducible] def rows := z1.2.1.1.2
@[irreducible] def tags := z1.2.1.2.1
@[irreducible] def cuts := z1.2.1.2.2
@[irreducible] def cs := z1.2.2.1.1
@[irreducible] def tx := z1.2.2.1.2
@[irreducible] def ta := z1.2.2.2.1
@[irreducible] def pos := z1.2.2.2.2
@[irreducible] def w := z1.1.w
@[irreducible] def m := z1.1.m
@[irreducible] def ro := z1.1.ro
def G2 : {P : Nat → Addr → Heap → Addr → Heap → Heap → Heap → Heap → Heap → Nat → Nat → LAO → Heap → Nat → Nat → Int → Int → Int → Addr → Tok → Tok → Tok → Tok → (Option Value) → Nat → Addr → Addr → (List Addr) → Nat → (List Addr) → Nat → (List Int) → Nat → Addr → (List Value) → Nat → Int → Tok → Prop // (∀ ξ11 ξ12 ξ13 ξ15 ξ16 ξ18 ξ19 ξ20 ξ21 ξ22 n nw h6 tk6 e st fn fe fa t1 t2 t3 t4 u tk R T rs n1 ts n2 row c ra vs n3 nx tn, P ξ11 ξ12 ξ13 ξ15 ξ16 ξ18 ξ19 ξ20 ξ21 ξ22 n nw h6 tk6 e st fn fe fa t1 t2 t3 t4 u tk R T rs n1 ts n2 row c ra vs n3 nx tn) → R1 z1 au cu rows tags cuts cs tx ta pos w m ro} := ⟨_, by
  intro hh AA AO CA hx hcs hp8 ret hlen S B F X N lt T hd hu st
  refine fillK (w := aWorld 0) ?_; k_fill; intro _ _
  w_strict (
    refine fillK (w := w) ?_; k_fill; intro _ _
    k_fold
    k_steps)
  rename_i F5 N5
  unfold Hold
  refine WhileGo.intro (chJ ro rows tags cuts cs pos (fun y => List.lookup y [(Str.ofString "automaton", Value.ref au), (Str.ofString "cuts", Value.ref cu), (Str.ofString "text", Value.str (textOf cs) tx), (Str.ofString "at", Value.int pos ta)].reverse)) (cs.length - pos) F5 N5 ?hj ?turn
  case hj => exact ⟨pos, 0, -1, (pos : Int) + 1, _, _, _, _, _, none, by lia, Nat.le_refl _, by simp, by decide, by have := AO.two; lia, (Sub.refl _).cons.cons, .tail _ (.head _), up_none rfl⟩
  rintro n m₁ nw h6 tk6 F6 N6 ⟨e, st, fn, fe, fa, t1, t2, t3, t4, u, hn, hpe, hR, hs0, hs1, sub, hfa, rfl⟩
  k_fold
  clear F5 N5
  w_strict k_steps
  · have he : (e : Int) < (textOf cs).length := by assumption
    have h0 : 0 ≤ st := by assumption
    rw [hlen] at he
    have he' : e < cs.length := by lia
    clear he
    obtain ⟨R, T, hau, ⟨rs, ⟨n1, hR1⟩, hrs⟩, ⟨ts, ⟨n2, hT1⟩, hts⟩⟩ := AA.sub sub
    obtain ⟨row, hrow⟩ : ∃ row, rows[st.toNat]? = some row := ⟨_, List.getElem?_eq_getElem (by lia)⟩
    obtain ⟨c, hc⟩ : ∃ c, cs[e]? = some c := ⟨_, List.getElem?_eq_getElem (by lia)⟩
    have hr4 := AO.three
    have hc3 := hcs c (List.mem_of_getElem? hc)
    have hr3 := AO.rows row (List.mem_of_getElem? hrow)
    obtain ⟨ra, hra, vs, ⟨n3, hvs⟩, hiv⟩ := hrs.at hrow
    obtain ⟨nx, hnx⟩ : ∃ nx, row[c]? = some nx := ⟨_, List.getElem?_eq_getElem (by lia)⟩
    obtain ⟨tn, hnv⟩ := IntsAre.get hiv _ _ hnx
    have hra' : (rs.map Value.ref)[st.toNat]? = some (Value.ref ra) := by simp [hra]
    dsimp only [TupAt] at hau hfa
    have hz : (textOf cs).cps[e]? = some (cpOf c) := by simp [textOf, hc]
    have hnb := hr3.2 nx (List.mem_of_getElem? hnx)
    rename_i ξ3 ξ4 ξ5 ξ6 ξ7 ξ8 ξ9 ξ10 ξ11 ξ12 ξ13 ξ14 ξ15 ξ16 ξ17 ξ18 ξ19 ξ20 ξ21 ξ22 ξ23 ξ24
    clear ξ5 ξ6 ξ7 ξ8
    revert AA AO CA hx hcs hp8 ret hlen S B X lt ξ3 hd hu ξ4 ξ9 ξ10 ξ14 ξ17 N6 hn hpe hR hs0 hs1 sub hfa F6 qk ek ξ23 ξ24 h0 he' hau hrs hR1 hts hT1 hrow hc hr4 hc3 hr3 hra hiv hvs hnx hnv hra' hz hnb
    exact hh ξ11 ξ12 ξ13 ξ15 ξ16 ξ18 ξ19 ξ20 ξ21 ξ22 n nw h6 tk6 e st fn fe fa t1 t2 t3 t4 u tk R T rs n1 ts n2 row c ra vs n3 nx tn
  · have h0 : ¬ 0 ≤ st := by assumption
    refine EndK.of (by assumption) (by assumption) ?_
    intro kF kN
    have e2 : chooseD rows tags cuts pos (cs.drop e) st ((e - pos : Nat) : Int) (fn, fe) = (fn, fe) := by
      match cs.drop e with
      | [] => rfl
      | c :: r => unfold chooseD; rw [if_pos (by lia)]
    rw [e2] at hR
    refine ret fa _ _ nw t1 t2 kF kN sub ?_
    rw [← hR]
    exact hfa
  · have he : ¬ (e : Int) < (textOf cs).length := by assumption
    rw [hlen] at he
    refine EndK.of (by assumption) (by assumption) ?_
    intro kF kN
    have e2 : chooseD rows tags cuts pos (cs.drop e) st ((e - pos : Nat) : Int) (fn, fe) = (fn, fe) := by
      rw [List.drop_of_length_le (by lia)]
      rfl
    rw [e2] at hR
    refine ret fa _ _ nw t1 t2 kF kN sub ?_
    rw [← hR]
    exact hfa⟩
def R2 (ξ : ((((((Nat × Addr) × Heap) × (Addr × Heap)) × (((Heap × Heap) × Heap) × (Heap × Nat))) × ((((Nat × LAO) × Heap) × (Nat × Nat)) × ((Int × Int) × (Int × Addr)))) × (((((Tok × Tok) × Tok) × (Tok × (Option Value))) × (((Nat × Addr) × Addr) × ((List Addr) × Nat))) × (((((List Addr) × Nat) × (List Int)) × (Nat × Addr)) × (((List Value) × Nat) × (Int × Tok)))))) := fun n nw e fn fe fa t1 t2 u ts vs nx tn => G2.1 ξ.1.1.1.1.1.1 ξ.1.1.1.1.1.2 ξ.1.1.1.1.2 ξ.1.1.1.2.1 ξ.1.1.1.2.2 ξ.1.1.2.1.1.1 ξ.1.1.2.1.1.2 ξ.1.1.2.1.2 ξ.1.1.2.2.1 ξ.1.1.2.2.2 n nw ξ.1.2.1.1.2 ξ.1.2.1.2.1 e ξ.1.2.2.1.1 fn fe fa t1 t2 ξ.2.1.1.1.2 ξ.2.1.1.2.1 u ξ.2.1.2.1.1.1 ξ.2.1.2.1.1.2 ξ.2.1.2.1.2 ξ.2.1.2.2.1 ξ.2.1.2.2.2 ts ξ.2.2.1.1.1.2 ξ.2.2.1.1.2 ξ.2.2.1.2.1 ξ.2.2.1.2.2 vs ξ.2.2.2.1.2 nx tn
def P2 (ξ : ((((((Nat × Addr) × Heap) × (Addr × Heap)) × (((Heap × Heap) × Heap) × (Heap × Nat))) × ((((Nat × LAO) × Heap) × (Nat × Nat)) × ((Int × Int) × (Int × Addr)))) × (((((Tok × Tok) × Tok) × (Tok × (Option Value))) × (((Nat × Addr) × Addr) × ((List Addr) × Nat))) × (((((List Addr) × Nat) × (List Int)) × (Nat × Addr)) × (((List Value) × Nat) × (Int × Tok)))))) : Prop := R2 ξ ξ.1.2.1.1.1.1 ξ.1.2.1.1.1.2 ξ.1.2.1.2.2 ξ.1.2.2.1.2 ξ.1.2.2.2.1 ξ.1.2.2.2.2 ξ.2.1.1.1.1.1 ξ.2.1.1.1.1.2 ξ.2.1.1.2.2 ξ.2.2.1.1.1.1 ξ.2.2.2.1.1 ξ.2.2.2.2.1 ξ.2.2.2.2.2
@[irreducible] def z2 : ((((((Nat × Addr) × Heap) × (Addr × Heap)) × (((Heap × Heap) × Heap) × (Heap × Nat))) × ((((Nat × LAO) × Heap) × (Nat × Nat)) × ((Int × Int) × (Int × Addr)))) × (((((Tok × Tok) × Tok) × (Tok × (Option Value))) × (((Nat × Addr) × Addr) × ((List Addr) × Nat))) × (((((List Addr) × Nat) × (List Int)) × (Nat × Addr)) × (((List Value) × Nat) × (Int × Tok))))) := ep P2 (by walk_at "ne")
@[irreducible] def n := z2.1.2.1.1.1.1
@[irreducible] def nw := z2.1.2.1.1.1.2
@[irreducible] def e := z2.1.2.1.2.2
@[irreducible] def fn := z2.1.2.2.1.2
@[irreducible] def fe := z2.1.2.2.2.1
@[irreducible] def fa := z2.1.2.2.2.2
@[irreducible] def t1 := z2.2.1.1.1.1.1
@[irreducible] def t2 := z2.2.1.1.1.1.2
@[irreducible] def u := z2.2.1.1.2.2
@[irreducible] def ts := z2.2.2.1.1.1.1
@[irreducible] def vs := z2.2.2.2.1.1
@[irreducible] def nx := z2.2.2.2.2.1
@[irreducible] def tn := z2.2.2.2.2.2
def G3 : {P : Tok → Heap → Heap → (List Int) → Addr → (List Value) → Addr → Heap → Nat → LAO → Addr → Obj → Heap → Nat → Int → Int → Addr → Tok → Tok → (Option Value) → Int → Tok → Addr → Addr → Nat → Addr → Prop // (∀ ξ30 ξ31 ξ32 tg tda ws p7 h7 i nw1 I oI h8 tk8 fn1 fe1 fa1 t11 t12 u1 nv tv c0 c1 n7 cN, P ξ30 ξ31 ξ32 tg tda ws p7 h7 i nw1 I oI h8 tk8 fn1 fe1 fa1 t11 t12 u1 nv tv c0 c1 n7 cN) → R2 z2 n nw e fn fe fa t1 t2 u ts vs nx tn} := ⟨_, by
  intro hh AA AO CA hx hcs hp8 ret hlen S B X lt ξ3 hd hu ξ4 ξ9 ξ10 ξ14 ξ17 N6 hn hpe hR hs0 hs1 sub hfa F6 qk ek ξ23 ξ24 h0 he' hau hrs hR1 hts hT1 hrow hc hr4 hc3 hr3 hra hiv hvs hnx hnv hra' hz hnb
  refine fillK (w := aWorld 0) ?_; k_fill; intro _ _
  w_strict k_steps
  · have h0x : 0 ≤ nx := by assumption
    obtain ⟨tg, htg⟩ : ∃ tg, tags[nx.toNat]? = some tg := ⟨_, List.getElem?_eq_getElem (by have := AO.same; lia)⟩
    obtain ⟨tda, htda, ws, hws, hwi⟩ := hts.at htg
    have htda' : (ts.map Value.ref)[nx.toNat]? = some (Value.ref tda) := by simp [htda]
    dsimp only [TupAt] at hws
    have htl : tg.length ≤ 2 := by rcases AO.tags tg (List.mem_of_getElem? htg) with rfl | rfl | rfl | rfl <;> decide
    have hwl : ws.length ≤ 2 := by have h1 := hwi.length; lia
    w_strict k_steps
    rename_i p7 h7 F7 N7 l7
    unfold Hold
    refine iterT (vs := ws.reverse) (oT := { cls := Value.type "tuple", data := Data.seq ws.reverse.toArray })
      (inJ ((p7, { cls := Value.type "tuple", data := Data.seq ws.reverse.toArray }) :: nw) cuts pos ((e : Int) + 1 - pos) tg.reverse (tg.reverse.foldl (stepD cuts pos ((e : Int) + 1 - pos)) (fn, fe))
        (up (Str.ofString "state") (some (.int nx tn)) (up (Str.ofString "end") (some (.int ((e : Int) + 1) _)) (fun y => List.lookup y [(Str.ofString "automaton", Value.ref au), (Str.ofString "cuts", Value.ref cu), (Str.ofString "text", Value.str (textOf cs) tx), (Str.ofString "at", Value.int pos ta)].reverse))))
      rfl (fun h hg => ⟨_, hg, rfl, _, rfl⟩) (fun i m nw hJ => by obtain ⟨_, _, _, _, _, _, hs, _⟩ := hJ; exact hs _ (.head _)) F7 N7 ⟨fn, fe, fa, t1, t2, u, Sub.refl _, .tail _ hfa, rfl, by walk_at "same locals"⟩ ?turn9 ?done9
    case' turn9 =>
      rintro i v m₁ nw1 I oI h8 tk8 hv ⟨fn1, fe1, fa1, t11, t12, u1, sub1, hfa1, hR1, rfl⟩ off8 F8 N8
      k_fold
      clear N7 F7
      obtain ⟨nv, tv, rfl, hnv2⟩ := IntsAre.at hwi.reverse i v hv
      have hnv3 : nv = 0 ∨ nv = 1 := by
        have := List.mem_reverse.mp (List.mem_of_getElem? hnv2)
        rcases AO.tags tg (List.mem_of_getElem? htg) with rfl | rfl | rfl | rfl <;> simp at this <;> lia
      obtain ⟨c0, c1, ⟨n7, hcl⟩, hc0, hc1⟩ := CA
      obtain ⟨cN, hcN, hcA⟩ : ∃ cN, [Value.ref c0, Value.ref c1][nv.toNat]? = some (Value.ref cN) ∧ CutAt ro cN (cuts nv).1 (cuts nv).2 := by
        rcases hnv3 with rfl | rfl
        · exact ⟨c0, rfl, hc0⟩
        · exact ⟨c1, rfl, hc1⟩
      have hsub : Sub ro nw1 := fun p hp => sub1 p (.tail _ (sub p hp))
      have hcl' := hsub _ hcl
      replace hcA := CutAt.sub hcA hsub
      rename_i ξ25 ξ26 ξ27 ξ28 ξ29 ξ30 ξ31 ξ32 ξ33
      clear ξ28 ξ29
      revert AA AO hx hcs hp8 ret hlen S B X lt ξ3 hd hu ξ4 ξ9 ξ10 ξ14 ξ17 hn hpe hR hs0 hs1 sub hfa ξ25 ξ26 ξ23 ξ24 h0 he' hau hrs ξ27 hts hT1 hrow hc hr4 hc3 hr3 hra hiv hvs hnx hnv hra' hz hnb ξ33 h0x htg htda hws hwi htda' htl hwl l7 sub1 hfa1 hR1 off8 F8 N8 qk ek hnv2 hv hnv3 hc0 hc1 hcl hcN hsub hcl' hcA
      exact hh ξ30 ξ31 ξ32 tg tda ws p7 h7 i nw1 I oI h8 tk8 fn1 fe1 fa1 t11 t12 u1 nv tv c0 c1 n7 cN
    case done9 =>
      rintro m₁ nw1 h8 tk8 ⟨fn1, fe1, fa1, t11, t12, u1, sub1, hfa1, hR1, rfl⟩ F8 N8
      have hfd := fold_end (by rw [List.length_reverse, List.length_reverse, hwi.length]) hR1
      (try dsimp only)
      w_strict k_steps
      have e1 : tagR tags nx = tg := by simp only [tagR, if_pos h0x, htg, Option.getD_some]
      refine WhileEnd.of (n - 1) nw1 (by assumption) (by assumption) (fun _ h => h) (by lia) ⟨e + 1, nx, fn1, fe1, fa1, _, _, _, _, _, by lia, by lia,
        (choose_step hpe hc h0 hrow hnx (by rw [e1]; exact hfd) hR), by lia, by lia, fun p hp => sub1 p (.tail _ (sub p hp)), hfa1, by walk_at "same locals"⟩
  · rename_i p7 h7 F7 N7 l7
    unfold Hold
    refine iterT (vs := []) (oT := { cls := Value.type "tuple", data := Data.seq (List.reverse []).toArray })
      (inJ ((p7, { cls := Value.type "tuple", data := Data.seq (List.reverse []).toArray }) :: nw) cuts pos ((e : Int) + 1 - pos) [] (fn, fe)
        (up (Str.ofString "state") (some (.int nx tn)) (up (Str.ofString "end") (some (.int ((e : Int) + 1) _)) (fun y => List.lookup y [(Str.ofString "automaton", Value.ref au), (Str.ofString "cuts", Value.ref cu), (Str.ofString "text", Value.str (textOf cs) tx), (Str.ofString "at", Value.int pos ta)].reverse))))
      rfl (fun h hg => ⟨_, hg, rfl, _, rfl⟩) (fun i m nw hJ => by obtain ⟨_, _, _, _, _, _, hs, _⟩ := hJ; exact hs _ (.head _)) F7 (newsSk1 N7) ⟨fn, fe, fa, t1, t2, u, Sub.refl _, .tail _ hfa, rfl, by walk_at "same locals"⟩ ?turn10 ?done10
    case turn10 =>
      intro i v m₁ nw1 I oI h8 tk8 hv
      simp at hv
    case done10 =>
      rintro m₁ nw1 h8 tk8 ⟨fn1, fe1, fa1, t11, t12, u1, sub1, hfa1, hR1, rfl⟩ F8 N8
      have hfd : (fn1, fe1) = (fn, fe) := hR1
      (try dsimp only)
      w_strict k_steps
      have e1 : tagR tags nx = [] := if_neg (by assumption)
      refine WhileEnd.of (n - 1) nw1 (by assumption) (by assumption) (fun _ h => h) (by lia) ⟨e + 1, nx, fn1, fe1, fa1, _, _, _, _, _, by lia, by lia,
        (choose_step hpe hc h0 hrow hnx (by rw [e1]; exact hfd) hR), by lia, by lia, fun p hp => sub1 p (.tail _ (sub p hp)), hfa1, by walk_at "same locals"⟩⟩
def R3 (ξ : (((((Tok × Heap) × (Heap × (List Int))) × ((Addr × (List Value)) × Addr)) × (((Heap × Nat) × LAO) × ((Addr × Obj) × Heap))) × ((((Nat × Int) × (Int × Addr)) × ((Tok × Tok) × (Option Value))) × (((Int × Tok) × Addr) × ((Addr × Nat) × Addr))))) := fun nw1 fn1 fe1 fa1 nv tv => G3.1 ξ.1.1.1.1.1 ξ.1.1.1.1.2 ξ.1.1.1.2.1 ξ.1.1.1.2.2 ξ.1.1.2.1.1 ξ.1.1.2.1.2 ξ.1.1.2.2 ξ.1.2.1.1.1 ξ.1.2.1.1.2 nw1 ξ.1.2.2.1.1 ξ.1.2.2.1.2 ξ.1.2.2.2 ξ.2.1.1.1.1 fn1 fe1 fa1 ξ.2.1.2.1.1 ξ.2.1.2.1.2 ξ.2.1.2.2 nv tv ξ.2.2.1.2 ξ.2.2.2.1.1 ξ.2.2.2.1.2 ξ.2.2.2.2
def P3 (ξ : (((((Tok × Heap) × (Heap × (List Int))) × ((Addr × (List Value)) × Addr)) × (((Heap × Nat) × LAO) × ((Addr × Obj) × Heap))) × ((((Nat × Int) × (Int × Addr)) × ((Tok × Tok) × (Option Value))) × (((Int × Tok) × Addr) × ((Addr × Nat) × Addr))))) : Prop := R3 ξ ξ.1.2.1.2 ξ.2.1.1.1.2 ξ.2.1.1.2.1 ξ.2.1.1.2.2 ξ.2.2.1.1.1 ξ.2.2.1.1.2
@[irreducible] def z3 : (((((Tok × Heap) × (Heap × (List Int))) × ((Addr × (List Value)) × Addr)) × (((Heap × Nat) × LAO) × ((Addr × Obj) × Heap))) × ((((Nat × Int) × (Int × Addr)) × ((Tok × Tok) × (Option Value))) × (((Int × Tok) × Addr) × ((Addr × Nat) × Addr)))) := ep P3 (by walk_at "ne")
@[irreducible] def nw1 := z3.1.2.1.2
@[irreducible] def fn1 := z3.2.1.1.1.2
@[irreducible] def fe1 := z3.2.1.1.2.1
@[irreducible] def fa1 := z3.2.1.1.2.2
@[irreducible] def nv := z3.2.2.1.1.1
@[irreducible] def tv := z3.2.2.1.1.2
theorem m3 : R3 z3 nw1 fn1 fe1 fa1 nv tv := by
  intro AA AO hx hcs hp8 ret hlen S B X lt ξ3 hd hu ξ4 ξ9 ξ10 ξ14 ξ17 hn hpe hR hs0 hs1 sub hfa ξ25 ξ26 ξ23 ξ24 h0 he' hau hrs ξ27 hts hT1 hrow hc hr4 hc3 hr3 hra hiv hvs hnx hnv hra' hz hnb ξ33 h0x htg htda hws hwi htda' htl hwl l7 sub1 hfa1 hR1 off8 F8 N8 qk ek hnv2 hv hnv3 hc0 hc1 hcl hcN hsub hcl' hcA
  refine fillK (w := aWorld 0) ?_; k_fill; intro _ _
  w_strict k_steps
  · rename_i D9 h9a l9 h9 F9 N9
    refine TurnEnd.of ((D9, _) :: nw1) F9 N9 (by walk_at "sublist") (List.forall_mem_cons.mpr ⟨(by k_ne), off8⟩) ⟨_, _, D9, _, _, some (.int nv tv), sub1.cons, .head _, fold_at hnv2 (if_pos ⟨by assumption, by assumption⟩) hR1, by walk_at "same locals"⟩
  · refine TurnEnd.of nw1 (by assumption) (by assumption) (fun _ h => h) off8 ⟨fn1, fe1, fa1, _, _, some (.int nv tv), sub1, hfa1, fold_at hnv2 (if_neg (fun h => absurd h.2 (by assumption))) hR1, by walk_at "same locals"⟩
  · refine TurnEnd.of nw1 (by assumption) (by assumption) (fun _ h => h) off8 ⟨fn1, fe1, fa1, _, _, some (.int nv tv), sub1, hfa1, fold_at hnv2 (if_neg (fun h => absurd h.1 (by assumption))) hR1, by walk_at "same locals"⟩
theorem m2 : R2 z2 n nw e fn fe fa t1 t2 u ts vs nx tn := G3.2 (fun ξ30 ξ31 ξ32 tg tda ws p7 h7 i nw1 I oI h8 tk8 fn1 fe1 fa1 t11 t12 u1 nv tv c0 c1 n7 cN => @ep_go _ P3 _ _ (by with_unfolding_all exact m3) (((((ξ30, ξ31), (ξ32, tg)), ((tda, ws), p7)), (((h7, i), nw1), ((I, oI), h8))), ((((tk8, fn1), (fe1, fa1)), ((t11, t12), u1)), (((nv, tv), c0), ((c1, n7), cN)))) (by kernel_rfl))
theorem m1 : R1 z1 au cu rows tags cuts cs tx ta pos w m ro := G2.2 (fun ξ11 ξ12 ξ13 ξ15 ξ16 ξ18 ξ19 ξ20 ξ21 ξ22 n nw h6 tk6 e st fn fe fa t1 t2 t3 t4 u tk R T rs n1 ts n2 row c ra vs n3 nx tn => @ep_go _ P2 _ _ (by with_unfolding_all exact m2) ((((((ξ11, ξ12), ξ13), (ξ15, ξ16)), (((ξ18, ξ19), ξ20), (ξ21, ξ22))), ((((n, nw), h6), (tk6, e)), ((st, fn), (fe, fa)))), (((((t1, t2), t3), (t4, u)), (((tk, R), T), (rs, n1))), ((((ts, n2), row), (c, ra)), ((vs, n3), (nx, tn))))) (by kernel_rfl))
end choice_ok
end
theorem choice_ok : choice_ok.St := choice_ok.G1.2 (fun au cu rows tags cuts cs tx ta pos w h₀ L A m ro s Q E dp un gd outer A₀ base loose mean mg mb g L' h₁ tk => @ep_go _ choice_ok.P1 _ _ (by with_unfolding_all exact choice_ok.m1) ((⟨m, ro, Q, E, s, A, L, h₀, 0, w, dp, un, gd, outer, A₀, base, loose, mean, mg, mb, g, L', h₁, tk⟩ : Cx), ((((au, cu), rows), (tags, cuts)), ((cs, tx), (ta, pos)))) (by kernel_rfl))
theorem body_step {cuts : Int → Bool × Int} {pos len : Int} {fd : Int × Int} {nv : Int} (hn : nv = 0 ∨ nv = 1) (h : fd.1 = -1 ∨ fd.1 = 0 ∨ fd.1 = 1) (h1 : pos < fd.2) (h2 : fd.2 ≤ pos + len) :
    ((stepD cuts pos len fd nv).1 = -1 ∨ (stepD cuts pos len fd nv).1 = 0 ∨ (stepD cuts pos len fd nv).1 = 1) ∧ pos < (stepD cuts pos len fd nv).2 ∧ (stepD cuts pos len fd nv).2 ≤ pos + len := by
  unfold stepD
  split
  · rename_i h; exact ⟨by simp only; lia, by simp only; lia, by simp only; lia⟩
  · exact ⟨h, h1, h2⟩
theorem fold_bounds {cuts : Int → Bool × Int} {pos len : Int} : ∀ {tg : List Int} {fd : Int × Int}, (∀ x ∈ tg, x = 0 ∨ x = 1) → (fd.1 = -1 ∨ fd.1 = 0 ∨ fd.1 = 1) → pos < fd.2 → fd.2 ≤ pos + len →
    ((tg.foldl (stepD cuts pos len) fd).1 = -1 ∨ (tg.foldl (stepD cuts pos len) fd).1 = 0 ∨ (tg.foldl (stepD cuts pos len) fd).1 = 1) ∧ pos < (tg.foldl (stepD cuts pos len) fd).2 ∧ (tg.foldl (stepD cuts pos len) fd).2 ≤ pos + len
  | [], fd, _, h, h1, h2 => ⟨h, h1, h2⟩
  | x :: r, fd, hx, h, h1, h2 => by
    have b := body_step (cuts := cuts) (hx x (.head _)) h h1 h2
    exact fold_bounds (tg := r) (fd := stepD cuts pos len fd x) (fun y hy => hx y (.tail _ hy)) b.1 b.2.1 b.2.2
theorem choose_bounds {rows tags : List (List Int)} {cuts : Int → Bool × Int} {pos : Int} (ht : ∀ t ∈ tags, ∀ x ∈ t, x = 0 ∨ x = 1) : ∀ {cs : List Nat} {st len : Int} {fd : Int × Int}, 0 ≤ len → (fd.1 = -1 ∨ fd.1 = 0 ∨ fd.1 = 1) → pos < fd.2 → fd.2 ≤ pos + max 1 len → (cs ≠ [] ∨ 1 ≤ len) →
    ((chooseD rows tags cuts pos cs st len fd).1 = -1 ∨ (chooseD rows tags cuts pos cs st len fd).1 = 0 ∨ (chooseD rows tags cuts pos cs st len fd).1 = 1) ∧ pos < (chooseD rows tags cuts pos cs st len fd).2 ∧ (chooseD rows tags cuts pos cs st len fd).2 ≤ pos + len + cs.length
  | [], st, len, fd, hl, h, h1, h2, hne => by
    have : 1 ≤ len := hne.resolve_left (fun h => h rfl)
    exact ⟨h, h1, by simp only [chooseD, List.length_nil]; lia⟩
  | c :: r, st, len, fd, hl, h, h1, h2, hne => by
    unfold chooseD
    by_cases hs : st < 0
    · rw [if_pos hs]
      exact ⟨h, h1, by simp only [List.length_cons]; lia⟩
    · rw [if_neg hs]
      have htg : ∀ x ∈ (tagR tags (stepR rows st c)).reverse, x = 0 ∨ x = 1 := by
        intro x hx
        have hx := List.mem_reverse.mp hx
        unfold tagR at hx
        split at hx
        · cases hq : tags[(stepR rows st c).toNat]? with
          | none => rw [hq] at hx; simp at hx
          | some t => rw [hq] at hx; exact ht t (List.mem_of_getElem? hq) x hx
        · cases hx
      have b := fold_bounds (cuts := cuts) (pos := pos) (len := len + 1) htg h h1 (by lia)
      have g := choose_bounds (rows := rows) (cuts := cuts) (pos := pos) ht (cs := r) (st := stepR rows st c) (len := len + 1) (by lia) b.1 b.2.1 (by lia) (.inr (by lia))
      exact ⟨g.1, g.2.1, by have := g.2.2; simp only [List.length_cons]; lia⟩
theorem tag_two {rows tags : List (List Int)} (o : AutoOk rows tags) : ∀ t ∈ tags, ∀ x ∈ t, x = 0 ∨ x = 1 := by
  intro t ht x hx
  rcases o.tags t ht with rfl | rfl | rfl | rfl <;> simp at hx <;> lia
/-- the two automata: within a line and at its begin -/
structure Autos where
  rows : Nat → List (List Int)
  tags : Nat → List (List Int)
def beginsAt (cs : List Nat) (pos : Nat) : Nat := if pos = 0 ∨ cs[pos - 1]? = some 0 then 1 else 0
/-- the choice at a place -/
def pickD (a : Autos) (cuts : Int → Bool × Int) (cs : List Nat) (pos : Nat) : Int × Int :=
  chooseD (a.rows (beginsAt cs pos)) (a.tags (beginsAt cs pos)) cuts pos (cs.drop pos) 0 0 (-1, (pos : Int) + 1)
theorem pick_bounds {a : Autos} {cuts : Int → Bool × Int} {cs : List Nat} {pos : Nat} (o0 : AutoOk (a.rows 0) (a.tags 0)) (o1 : AutoOk (a.rows 1) (a.tags 1)) (hp : pos < cs.length) :
    ((pickD a cuts cs pos).1 = -1 ∨ (pickD a cuts cs pos).1 = 0 ∨ (pickD a cuts cs pos).1 = 1) ∧ (pos : Int) < (pickD a cuts cs pos).2 ∧ (pickD a cuts cs pos).2 ≤ cs.length := by
  have ht : ∀ t ∈ a.tags (beginsAt cs pos), ∀ x ∈ t, x = 0 ∨ x = 1 := by
    unfold beginsAt
    split
    · exact tag_two o1
    · exact tag_two o0
  have b := choose_bounds (rows := a.rows (beginsAt cs pos)) (cuts := cuts) (pos := (pos : Int)) ht (cs := cs.drop pos) (st := 0) (len := 0) (fd := (-1, (pos : Int) + 1)) (by lia) (.inl rfl) (by simp only; lia) (by simp only; lia) (.inl (by intro e; have := congrArg List.length e; simp at this; lia))
  refine ⟨b.1, b.2.1, ?_⟩
  have := b.2.2
  rw [List.length_drop] at this
  unfold pickD
  lia
/-- the turns that are due from a place on: number, begin, end; first is the begin of the token under way -/
structure Turn where
  number : Int
  first : Nat
  start : Nat
  stop : Nat
def dueD (a : Autos) (cuts : Int → Bool × Int) (more : Bool) (cs : List Nat) : Nat → Nat → Nat → List Turn
  | 0, _, _ => []
  | n + 1, pos, first => if pos < cs.length then
      ⟨(pickD a cuts cs pos).1, first, pos, (pickD a cuts cs pos).2.toNat⟩ :: dueD a cuts more cs n (pickD a cuts cs pos).2.toNat (if (pickD a cuts cs pos).1 = 1 ∧ more = true then first else (pickD a cuts cs pos).2.toNat)
    else []
section
variable {prog : Program} {w : World} {A : Around} {E : Value → Shared → Prop} {s s₁ : Shared} {h₀ : Heap} {L : Addr} {m : Str → Option Value} {env : Env}
def TupSrc (ax : Addr) (its : Array Value) (news : List (Addr × Obj)) : Prop := ∃ n, (ax, ({ cls := .type "tuple", data := .seq its n } : Obj)) ∈ news
/-- the iterator of xv is the new object o; it gives n values under P, as long as the ledger keeps S -/
inductive Opens (prog : Program) (w : World) (A : Around) (h₀ : Heap) (L : Addr) (xv : Value) (s₁ : Shared) (n : Nat) (P : Nat → Value → Prop) (S : List (Addr × Obj) → Prop) : Prop
  | mk : ∀ (o : Obj) (fp : List Addr) (St : Nat → Heap → Prop),
      (∀ (Q E : Value → Shared → Prop), Q (.ref s₁.heap.objs.size) { s₁ with heap := s₁.heap.push o } → wpAny (model prog w) A (pyIter xv) Q E s₁) →
      Walks prog w A s₁.heap.objs.size fp [s₁.heap.objs.size] n P St → (∀ i h, St i h → ∃ q, h.get? s₁.heap.objs.size = some q) →
      (∀ i h h' q nw, St i h → h.get? s₁.heap.objs.size = some q → h'.get? s₁.heap.objs.size = some q → (∀ b p, h₀.get? b = some p → h'.get? b = some p) → News h₀ L h' nw → S nw → St i h') →
      St 0 (s₁.heap.push o) → (∀ b ∈ fp, b ≤ s₁.heap.objs.size) → Opens prog w A h₀ L xv s₁ n P S
/-- what a comprehension draws from: Rest is what its turns have to show -/
inductive Drawn (prog : Program) (w : World) (A : Around) (h₀ : Heap) (L : Addr) (m : Str → Option Value) (Rest : Shared → (List (Addr × Obj) → Prop) → (Nat → Value → Prop) → Nat → List (Addr × Obj) → Prop) (xv : Value) (s₁ : Shared) : Prop
  | mk : ∀ (n : Nat) (P : Nat → Value → Prop) (S : List (Addr × Obj) → Prop) (news : List (Addr × Obj)), Opens prog w A h₀ L xv s₁ n P S → Fr h₀ L s₁.heap m → News h₀ L s₁.heap news → S news → n ≤ sizeLine →
      (∀ g, Rest { s₁ with heap := g } S P n news) → Drawn prog w A h₀ L m Rest xv s₁
theorem opens_list {ax : Addr} {its : Array Value} (hh : A.handled = none) (hl : s₁.heap.IsList ax its) : Opens prog w A h₀ L (.ref ax) s₁ its.size (fun i v => its[i]? = some v) (LCg.SrcAt h₀ ax its) :=
  have lt : ax < s₁.heap.objs.size := let ⟨_, e, _⟩ := hl; Heap.lt_size e
  ⟨_, _, _, fun _ _ q => wpAny_pyIter_list hl q, Walks.list hh _ ax (Nat.ne_of_lt lt) its, fun _ _ st => let ⟨q, e, _⟩ := st.1; ⟨q, e⟩, LCg.list_st, ⟨⟨_, Heap.get?_push_size _ rfl, rfl, rfl⟩, hl.push _⟩, by simpa using Nat.le_of_lt lt⟩
theorem opens_range {r : Addr} {a b : Int} {t u v : Tok} {n : Nat} (hh : A.handled = none) (hr : IsRange s₁.heap r a b 1 t u v) (hsm : Builtin.Range.small a b 1 = true) (hn : Builtin.Range.rangeSize a b 1 = ((n : Nat) : Int)) :
    Opens prog w A h₀ L (.ref r) s₁ n (fun i v => ∃ t, v = .int (a + (i : Int)) t) (fun _ => True) :=
  ⟨_, _, _, fun _ _ q => wpAny_pyIter_range hr hsm q, LCg.range_walks hh a n, fun _ _ st => ⟨_, st⟩, LCg.range_st, by rw [hn]; simpa [IsRangeIter] using Heap.get?_push_size s₁.heap rfl, by simp⟩
theorem opens_str {z : Str} {t : Tok} (hh : A.handled = none) (ha : z.cps.all (· < 128) = true) : Opens prog w A h₀ L (.str z t) s₁ z.cps.size (SignAt z) (fun _ => True) :=
  ⟨_, _, _, fun _ _ q => wpAny_pyIter_ascii ha q, Walks.strAscii hh _ z t, fun _ _ ⟨q, e, _⟩ => ⟨q, e⟩, fun _ _ _ _ _ ⟨_, e, r⟩ e₁ e₂ _ _ _ => ⟨_, e₂.trans (e₁.symm.trans e), r⟩, ⟨_, Heap.get?_push_size _ rfl, rfl, rfl⟩, by simp⟩
theorem TupSrc.tup {ax : Addr} {its : Array Value} {news : List (Addr × Obj)} {h : Heap} (x : TupSrc ax its news) (N : News h₀ L h news) : h.IsTuple ax its :=
  let ⟨n, hm⟩ := x; ⟨_, (N _ hm).1, rfl, n, rfl⟩
theorem opens_tuple {ax : Addr} {its : Array Value} {news : List (Addr × Obj)} (hh : A.handled = none) (N : News h₀ L s₁.heap news) (S : TupSrc ax its news) : Opens prog w A h₀ L (.ref ax) s₁ its.size (fun i v => its[i]? = some v) (TupSrc ax its) :=
  have lt : ax < s₁.heap.objs.size := let ⟨_, hm⟩ := S; Heap.lt_size (N _ hm).1
  ⟨_, _, _, fun _ _ q => wpAny_pyIter_tuple (S.tup N) q, Walks.tuple hh _ ax (Nat.ne_of_lt lt) its, fun _ _ st => let ⟨q, e, _⟩ := st.1; ⟨q, e⟩, fun _ _ _ _ _ ⟨⟨_, e, r⟩, _⟩ e₁ e₂ _ N' S' => ⟨⟨_, e₂.trans (e₁.symm.trans e), r⟩, S'.tup N'⟩,
    ⟨⟨_, Heap.get?_push_size _ rfl, rfl, rfl⟩, S.tup (h₀ := h₀) (L := L) (N.grown fun _ _ e => Heap.get?_push_of_some _ e)⟩, by simpa using Nat.le_of_lt lt⟩
def CompAny (prog : Program) (w : World) (A : Around) (h₀ : Heap) (L : Addr) (m : Str → Option Value) (env : Env) (elt : Expr) (x : Str) (scope : Scope) (cl : List (Str × Addr)) (Fin : Shared → List Value → List (Addr × Obj) → Prop) (xv : Value) (s₁ : Shared) : Prop :=
  Drawn prog w A h₀ L m (fun s₂ S P n news => LCg.CompRest prog w A h₀ L m env elt x scope cl s₂ S P (Fin s₂) n 0 [] news) xv s₁
section
variable {elt iter : Expr} {x y : Str} {px py : Pos} {scope : Scope} {cl : List (Str × Addr)} {pos spos : Pos} {Fin : Shared → List Value → List (Addr × Obj) → Prop} {news : List (Addr × Obj)}
theorem CompAny.list {ax : Addr} {vs : List Value} {k : Nat} (hh : A.handled = none) (F : Fr h₀ L s₁.heap m) (N : News h₀ L s₁.heap news) (hm : (ax, W.listOf vs.toArray k) ∈ news) (hsz : vs.length ≤ 1000)
    (h : ∀ g, LCg.CompRest prog w A h₀ L m env elt x scope cl { s₁ with heap := g } (LCg.SrcAt h₀ ax vs.toArray) (fun i v => vs[i]? = some v) (Fin { s₁ with heap := g }) vs.length 0 [] news) :
    CompAny prog w A h₀ L m env elt x scope cl Fin (.ref ax) s₁ :=
  ⟨_, _, _, news, opens_list hh (PySem.IsL.isList (n := k) (N _ hm).1), F, N, .inr ⟨_, hm, rfl, k, rfl⟩, by rw [PySem.sizeLine_eq, List.size_toArray]; lia, fun g => by simpa using h g⟩
theorem CompAny.range {r : Addr} {a b : Int} {t u v : Tok} {n : Nat} (hh : A.handled = none) (F : Fr h₀ L s₁.heap m) (N : News h₀ L s₁.heap news) (hr : IsRange s₁.heap r a b 1 t u v)
    (hsm : Builtin.Range.small a b 1 = true) (hn : Builtin.Range.rangeSize a b 1 = ((n : Nat) : Int)) (hsz : n ≤ sizeLine)
    (h : ∀ g, LCg.CompRest prog w A h₀ L m env elt x scope cl { s₁ with heap := g } (fun _ => True) (fun i v => ∃ t, v = .int (a + (i : Int)) t) (Fin { s₁ with heap := g }) n 0 [] news) :
    CompAny prog w A h₀ L m env elt x scope cl Fin (.ref r) s₁ := ⟨_, _, _, news, opens_range hh hr hsm hn, F, N, trivial, hsz, h⟩
theorem CompAny.str {z : Str} {t : Tok} (hh : A.handled = none) (F : Fr h₀ L s₁.heap m) (N : News h₀ L s₁.heap news) (ha : z.cps.all (· < 128) = true) (hsz : z.cps.size ≤ 1000)
    (h : ∀ g, LCg.CompRest prog w A h₀ L m env elt x scope cl { s₁ with heap := g } (fun _ => True) (SignAt z) (Fin { s₁ with heap := g }) z.cps.size 0 [] news) :
    CompAny prog w A h₀ L m env elt x scope cl Fin (.str z t) s₁ := ⟨_, _, _, news, opens_str hh ha, F, N, trivial, by rw [PySem.sizeLine_eq]; lia, h⟩
theorem CompAny.tuple {ax : Addr} {vs : List Value} {k : Nat} (hh : A.handled = none) (F : Fr h₀ L s₁.heap m) (N : News h₀ L s₁.heap news) (hm : (ax, ({ cls := .type "tuple", data := .seq vs.toArray k } : Obj)) ∈ news) (hsz : vs.length ≤ 1000)
    (h : ∀ g, LCg.CompRest prog w A h₀ L m env elt x scope cl { s₁ with heap := g } (TupSrc ax vs.toArray) (fun i v => vs[i]? = some v) (Fin { s₁ with heap := g }) vs.length 0 [] news) :
    CompAny prog w A h₀ L m env elt x scope cl Fin (.ref ax) s₁ :=
  ⟨_, _, _, news, opens_tuple hh N ⟨k, hm⟩, F, N, ⟨k, hm⟩, by rw [PySem.sizeLine_eq, List.size_toArray]; lia, fun g => by simpa using h g⟩
/-- the scope's own dict C goes; the list D stays -/
theorem gone {C D : Addr} {o : Obj} {h h' : Heap} (N : News h₀ L h ((D, o) :: news)) (d : C ≠ D) (off : ∀ p ∈ news, p.1 ≠ C) (b : Heap.SameBut C h h') : News h₀ L h' ((D, o) :: news) := fun p hp =>
  ⟨(b.2 p.1 ((List.forall_mem_cons (p := fun q : Addr × Obj => q.1 ≠ C)).mpr ⟨Ne.symm d, off⟩ p hp)).trans (N p hp).1, (N p hp).2⟩
theorem comp_go {xv : Value} {RR : Value → Addr → Result → Shared → Prop} (hcell : ∀ y ∈ scope.names, y.2 ≠ .cell) (hkind : scope.kind = .function) (hx : scope.names.lookup x = some .local) (c : CompAny prog w A h₀ L m env elt x scope cl Fin xv s₁)
    (k : ∀ g D C h tk m' ys nw, Fr h₀ L h m → News h₀ L h ((D, LCg.lst ys) :: nw) → LCg.Off1 D nw → h.Ns C m' → h₀.get? C = none → C ≠ L → C ≠ D → (∀ p ∈ nw, p.1 ≠ C) → Fin { s₁ with heap := g } ys nw → RR (.ref D) C (.ok .next) { s₁ with heap := h, toks := tk }) :
    wpAny (model prog w) A (pyIter xv) (fun it s₂ => wpAny (model prog w) A (newList []) (fun acc s₃ => wpAny (model prog w) A (newFunctionEnv scope env.globals cl [] env.qual none .none (some env)) (fun cenv s₄ =>
      codeAny (model prog w) A (.compStart (.ListComp elt [⟨.Name x px, iter, [], 0⟩] scope pos) 0 it acc { cenv with scope := relabel scope env }) (RR acc cenv.locals) s₄) E s₃) E s₂) E s₁ := by
  obtain ⟨n, P, S, news, ⟨o, fp, St, go, W, one, stay, st0, le⟩, F, N, hS, hsz, R⟩ := c
  have up : ∀ b q, s₁.heap.get? b = some q → (s₁.heap.push o).get? b = some q := fun _ _ e => Heap.get?_push_of_some _ e
  exact go _ _ (LCg.block_U W hsz one stay hcell hkind hx st0 (fun b hb => by rw [Heap.size_push]; exact Nat.lt_succ_of_le (le b hb)) (F.keeps up) (N.grown up) (Nat.ne_of_lt F.ns.lt) F.fresh N.apart hS (R _)
    fun D C h tk m' ys nw F' N' o1 hn hC _ hCL _ hCD off fin => k _ D C h tk m' ys nw F' N' o1 hn hC hCL hCD off fin)
theorem ListComp_W {Q : Value → Shared → Prop} (_F₀ : Fr h₀ L s.heap m) (hclos : closureFor scope env = pure cl) (hcell : ∀ y ∈ scope.names, y.2 ≠ .cell) (hkind : scope.kind = .function)
    (hnames : ∀ y ∈ scope.names, y.2 = .local → scope.names.lookup y.1 = some .local) (hx : scope.names.lookup x = some .local)
    (h : wpAny (model prog w) A (eval iter env) (CompAny prog w A h₀ L m env elt x scope cl (fun s₂ => LCg.FinE h₀ L m s₂ Q)) E s)
    (hs : ∀ x, foldedSetIterable iter env x = pure x := by intro _; rfl) : wpAny (model prog w) A (eval (.ListComp elt [⟨.Name x px, iter, [], 0⟩] scope pos) env) Q E s := by
  rw [eval_ListComp]
  exact wpAny_comprehension_free (use := none) rfl hs hclos hkind hnames (wpAny_mono h (fun _ _ c => comp_go hcell hkind hx c
    fun _ D _ _ tk m' _ _ F' N' o1 hn hC hCL hCD off fin => ⟨m', hn, fun _ b => fin D _ tk (F'.change b hCL hC) (gone N' hCD off b) o1⟩) fun _ _ e => e)
theorem Assign_ListComp_W {Q : Flow → Shared → Prop} (_F₀ : Fr h₀ L s.heap m) (hLe : env.locals = L) (hsw : swapsWith (.ListComp elt [⟨.Name x px, iter, [], 0⟩] scope pos) (some (.Name y py)) spos.line env = pure true)
    (hclos : closureFor scope env = pure cl) (hcell : ∀ z ∈ scope.names, z.2 ≠ .cell) (hkind : scope.kind = .function)
    (hnames : ∀ z ∈ scope.names, z.2 = .local → scope.names.lookup z.1 = some .local) (hx : scope.names.lookup x = some .local)
    (hy : env.kindOf y = some .local) (hp : (env.scope.kind == .class || (env.scope.kind == .module && env.locals != env.globals)) = false)
    (h : wpAny (model prog w) A (eval iter env) (CompAny prog w A h₀ L m env elt x scope cl (fun s₂ => LCg.FinA h₀ L m s₂ y Q)) E s)
    (hs : ∀ x, foldedSetIterable iter env x = pure x := by intro _; rfl) : wpAny (model prog w) A (exec (.Assign [.Name y py] (.ListComp elt [⟨.Name x px, iter, [], 0⟩] scope pos) spos) env) Q E s := by
  subst hLe
  rw [exec_Assign_Name_used _ _ _ _ hsw]
  refine wpAny_bind (wpAny_standAt (wpAny_bind (wpAny_bind (wpAny_mono (Q := fun _ => Q .next) ?_ (fun _ _ q => wpAny_pure (wpAny_pure q)) fun _ _ e => e))))
  exact wpAny_comprehension_free (use := some (assign (.Name y py) env)) rfl hs hclos hkind hnames (wpAny_mono h (fun _ _ c => comp_go hcell hkind hx c
    fun _ D _ _ tk m' _ _ F' N' o1 hn hC hCL hCD off fin => wpAny_assign_Name (wpAny_storeName_local hy F'.ns
      (fun _ hn₂ hs₂ => ⟨m', hn.sameBut hs₂ hCL, fun _ b => fin D _ _ ((F'.set hn₂ hs₂).change b hCL hC) (gone (N'.set hs₂) hCD off b) o1⟩) hp)) fun _ _ e => e)
end
end
local macro_rules | `(tactic| walk_at "CompAny") => pure (κhol)
local macro_rules | `(tactic| walk_at "eval ListComp") => pure (κtD `ListComp_W [(κna `_F₀ κqa), κqu, κqd, κqr, κqd, κqr, κq0])
local macro_rules | `(tactic| walk_at "exec Assign cons ListComp") => pure (κtD `Assign_ListComp_W [(κna `_F₀ κqa), κqr, κqu, κqu, κqd, κqr, κqd, κqr, κqr, κqr, κq0])
theorem off1_mem' {D : Addr} : ∀ {l : List (Addr × Obj)}, LCg.Off1 D l → ∀ p ∈ l, p.1 ≠ D
  | [], _, p, hp => nomatch hp
  | q :: r, h, p, hp => by
    rcases List.mem_cons.mp hp with rfl | hp
    · exact h.1
    · exact off1_mem' h.2 p hp
theorem turn_sub (a b c d : Addr × Obj) (l : List (Addr × Obj)) : ∀ p ∈ a :: b :: c :: d :: l, p ∈ d :: a :: b :: c :: l := fun p hp => by
  rcases List.mem_cons.mp hp with rfl | hp
  · exact .tail _ (.head _)
  rcases List.mem_cons.mp hp with rfl | hp
  · exact .tail _ (.tail _ (.head _))
  rcases List.mem_cons.mp hp with rfl | hp
  · exact .tail _ (.tail _ (.tail _ (.head _)))
  rcases List.mem_cons.mp hp with rfl | hp
  · exact .head _
  · exact .tail _ (.tail _ (.tail _ (.tail _ hp)))
def charaJ (ro : List (Addr × Obj)) (i : Nat) (ys : List Value) (nw : List (Addr × Obj)) : Prop := (i = 0 ∧ ys = [] ∧ nw = ro) ∨ (i = 1 ∧ ∃ (tp : Addr) (t1 t2 : Tok), ys = [.ref tp] ∧ nw = (tp, ({ cls := .type "tuple", data := .seq #[.int 97 t1, .int 97 t2] } : Obj)) :: ro ∧ ∀ p ∈ ro, p.1 ≠ tp)
theorem of_a {w : World} {k : Nat} {h₀ : Heap} {L : Addr} {A : Around} {m : Str → Option Value} {ro : List (Addr × Obj)} {s : Shared} {tx : Tok} {Q E : Value → Shared → Prop}
    (S : Sit w (k + 10) h₀ L A) (F : Fr h₀ L s.heap m) (N : News h₀ L s.heap ro)
    (ret : ∀ x h' tk' nw, Fr h₀ L h' m → News h₀ L h' (nw ++ ro) → (∀ p ∈ ro, ∀ q ∈ nw, q.1 ≠ p.1) → CharAt w nw x 97 → Q (.ref x) { s with heap := h', toks := tk' }) :
    wpAny (MD w) A (call (.ref 534) [.str (Str.ofString "a") tx]) Q E s := by
  w_strict (
    refine fillK (w := w) ?_; k_fill; intro _ _
    k_dflt (refine enter [(Str.ofString "text", _)] S F N (by k_is) (by k_is) (fun _ _ => BindsTo.of_eq rfl) (locs rfl) rfl rfl rfl (by decide) ?_)
    clear S F N
    intro dp un gd outer A₀ base loose mean mg mb g L' h₁ tk S B F X N lt T hd hu st
    k_fold
    (try k_lt lt)
    k_steps)
  unfold Hold
  k_dflt (refine CompAny.str rfl (by k_asm) (by k_asm) (by decide +kernel) (by decide) ?_)
  intro g'
  refine compRest_ind (charaJ ro) (.inl ⟨rfl, rfl, rfl⟩) ?turn ?fin
  case' turn =>
    rintro i ys nw v I oI C oC D m₂ h tk E' hi hJ ⟨cp, u, hcp, rfl⟩ hC hx2 F N off ne
    obtain rfl : i = 0 := by
      have : (Str.ofString "a").cps.size = 1 := by decide
      lia
    rcases hJ with ⟨_, rfl, rfl⟩ | ⟨h1, _⟩
    rotate_left
    · exact absurd h1 (by decide)
    obtain rfl : cp = 97 := by
      have : (Str.ofString "a").cps[0]? = some 97 := by decide +kernel
      rw [hcp] at this; exact Option.some.inj this
    k_fold
    w_strict k_steps
    rename_i D' h' F' N' l1
    exact LCg.CompEnd.intro F' N' ((D', _) :: nw) (turn_sub _ _ _ _ _) ⟨⟨Nat.ne_of_gt l1.1, Nat.ne_of_gt l1.2.1, Nat.ne_of_gt l1.2.2.1⟩, off⟩ trivial (.inr ⟨rfl, D', _, _, rfl, rfl, fun p hp => Nat.ne_of_lt (tb_ltOf l1.2.2.2 p hp)⟩)
  case' fin =>
    intro ys nw hJ
    rcases hJ with ⟨h1, _⟩ | ⟨_, tp, t1, t2, rfl, rfl, of2⟩
    · exact absurd h1 (by decide +kernel)
    intro D5 h5 tk5 F5 N5 off5
    (try dsimp only)
    w_strict k_steps
    k_dflt (refine made_a (k := 0) (Sit.lessN (by assumption) (by decide)) F5 N5 (off1_mem' off5.2) of2 (Ne.symm off5.1) ?_)
    intro x9 h9 tk9 ro9 F9 N9 sb9 ch9
    w_strict k_steps
    refine EndK.of (by assumption) (by assumption) ?_
    intro kF kN
    exact ret x9 _ _ ro9 kF kN sb9 ch9

def charbJ (ro : List (Addr × Obj)) (i : Nat) (ys : List Value) (nw : List (Addr × Obj)) : Prop := (i = 0 ∧ ys = [] ∧ nw = ro) ∨ (i = 1 ∧ ∃ (tp : Addr) (t1 t2 : Tok), ys = [.ref tp] ∧ nw = (tp, ({ cls := .type "tuple", data := .seq #[.int 98 t1, .int 98 t2] } : Obj)) :: ro ∧ ∀ p ∈ ro, p.1 ≠ tp)
theorem of_b {w : World} {k : Nat} {h₀ : Heap} {L : Addr} {A : Around} {m : Str → Option Value} {ro : List (Addr × Obj)} {s : Shared} {tx : Tok} {Q E : Value → Shared → Prop}
    (S : Sit w (k + 10) h₀ L A) (F : Fr h₀ L s.heap m) (N : News h₀ L s.heap ro)
    (ret : ∀ x h' tk' nw, Fr h₀ L h' m → News h₀ L h' (nw ++ ro) → (∀ p ∈ ro, ∀ q ∈ nw, q.1 ≠ p.1) → CharAt w nw x 98 → Q (.ref x) { s with heap := h', toks := tk' }) :
    wpAny (MD w) A (call (.ref 534) [.str (Str.ofString "b") tx]) Q E s := by
  w_strict (
    refine fillK (w := w) ?_; k_fill; intro _ _
    k_dflt (refine enter [(Str.ofString "text", _)] S F N (by k_is) (by k_is) (fun _ _ => BindsTo.of_eq rfl) (locs rfl) rfl rfl rfl (by decide) ?_)
    clear S F N
    intro dp un gd outer A₀ base loose mean mg mb g L' h₁ tk S B F X N lt T hd hu st
    k_fold
    (try k_lt lt)
    k_steps)
  unfold Hold
  k_dflt (refine CompAny.str rfl (by k_asm) (by k_asm) (by decide +kernel) (by decide) ?_)
  intro g'
  refine compRest_ind (charbJ ro) (.inl ⟨rfl, rfl, rfl⟩) ?turn ?fin
  case' turn =>
    rintro i ys nw v I oI C oC D m₂ h tk E' hi hJ ⟨cp, u, hcp, rfl⟩ hC hx2 F N off ne
    obtain rfl : i = 0 := by
      have : (Str.ofString "b").cps.size = 1 := by decide
      lia
    rcases hJ with ⟨_, rfl, rfl⟩ | ⟨h1, _⟩
    rotate_left
    · exact absurd h1 (by decide)
    obtain rfl : cp = 98 := by
      have : (Str.ofString "b").cps[0]? = some 98 := by decide +kernel
      rw [hcp] at this; exact Option.some.inj this
    k_fold
    w_strict k_steps
    rename_i D' h' F' N' l1
    exact LCg.CompEnd.intro F' N' ((D', _) :: nw) (turn_sub _ _ _ _ _) ⟨⟨Nat.ne_of_gt l1.1, Nat.ne_of_gt l1.2.1, Nat.ne_of_gt l1.2.2.1⟩, off⟩ trivial (.inr ⟨rfl, D', _, _, rfl, rfl, fun p hp => Nat.ne_of_lt (tb_ltOf l1.2.2.2 p hp)⟩)
  case' fin =>
    intro ys nw hJ
    rcases hJ with ⟨h1, _⟩ | ⟨_, tp, t1, t2, rfl, rfl, of2⟩
    · exact absurd h1 (by decide +kernel)
    intro D5 h5 tk5 F5 N5 off5
    (try dsimp only)
    w_strict k_steps
    k_dflt (refine made_b (k := 0) (Sit.lessN (by assumption) (by decide)) F5 N5 (off1_mem' off5.2) of2 (Ne.symm off5.1) ?_)
    intro x9 h9 tk9 ro9 F9 N9 sb9 ch9
    w_strict k_steps
    refine EndK.of (by assumption) (by assumption) ?_
    intro kF kN
    exact ret x9 _ _ ro9 kF kN sb9 ch9
theorem entry_dul : entryFor table "dict.update.loop" = some Builtin.«dict.update.loop» := entryFor_of_tree (by kernel_rfl)
theorem plain_dul : plainId "dict.update.loop" = true := by decide +kernel
theorem lk_list_keys : typeLookup (.type "list") "keys" = pure none := by rw [typeLookup_type, builtinLookup_eq_fast]; kernel_rfl
section
variable {prog : Program} {w : World} {A : Around} {E : Value → Shared → Prop} {R : Result → Shared → Prop} {s : Shared}
theorem keys_none {a : Addr} {xs : Array Value} {k : Nat} {sl : Array (Option Value)} {Q : Option Value → Shared → Prop}
    (hx : s.heap.get? a = some { cls := .type "list", dict := none, data := .seq xs k, slots := sl }) (hA : A.handled = none)
    (h : ∀ h' tk, (∀ b o, s.heap.get? b = some o → h'.get? b = some o) → Q none { s with heap := h', toks := tk }) :
    wpAny (model prog w) A (getAttr? (.ref a) "keys") Q E s := by
  obtain ⟨hp, g, d, tk, os⟩ := s
  have hT : ∀ tk', (⟨hp, g, d, tk', os⟩ : Shared).TypeIs (.ref a) "list" := fun _ => ⟨_, hx, rfl⟩
  have f1 := sub_AttributeError
  have f3 := F.slot_list_getattribute.lookup
  have f4 := F.slot_list_getattribute.bind (.ref a)
  have f5 := am_list_getattr_none
  unfold getAttr? getAttrBy? getAttrBy
  repeat (any_goals (first | assumption | exact hT _ | ((with_reducible show wpAny _ _ (call (Value.builtin "list.__getattribute__") _ _) _ _ _); refine call_meets F.slot_list_getattribute (hT _) am_entry_list_getattribute (F.args_list_getattribute_2 _ _) (meets_getattribute_miss_list a xs k sl "keys" _ lk_list_keys (by decide +kernel)) ⟨hx, hA, fun h' tk' e hx' => ?_⟩) | wp_step))
  obtain ⟨t', u', he⟩ := hx'.there
  show wpAny _ _ (getattributeRaised _ _ _ _ _ _ _) _ _ _
  unfold getattributeRaised
  repeat (any_goals (first | assumption | wp_step))
  exact h _ _ hx'.of.keeps
/-- The update's loop over a list of pairs. -/
theorem update_loop {I ax d : Addr} {items : Array Value} {kvs : List (Int × Value)} (hh : A.in1.handled = none) (hne : ax ≠ I) (hsI : items.size = kvs.length)
    (hPP : ∀ (i : Nat) (v : Value), items[i]? = some v → ∃ (a : Addr) (t : Tok) (p : Int × Value) (ob : Obj), kvs[i]? = some p ∧ v = .ref a ∧ a ≠ d ∧ a ≠ I ∧ ob.cls = .type "tuple" ∧ (∃ n, ob.data = .seq #[.int p.1 t, p.2] n) ∧ s.heap.get? a = some ob)
    (hdI : d ≠ I) (hda : d ≠ ax) (hnd : (kvs.map (·.1)).Nodup) (hsz : kvs.length ≤ sizeLine) (res : Value) :
    ∀ (k i : Nat) (n : Int) (t0 : Tok) (s' : Shared), kvs.length - i = k → i ≤ kvs.length → s'.heap.IsListIter I ax i → s'.heap.IsList ax items → s'.heap.DictOf (intKind prog w) d (kvs.take i) → (∀ b o, b ≠ d → b ≠ I → s.heap.get? b = some o → s'.heap.get? b = some o) →
      s'.gens = s.gens → s'.drawn = s.drawn → s'.os = s.os →
      (∀ h' tk, h'.DictOf (intKind prog w) d kvs → (∀ b o, b ≠ d → b ≠ I → s.heap.get? b = some o → h'.get? b = some o) → R (.ok (.ret res)) { s with heap := h', toks := tk }) →
      codeAny (model prog w) A (.builtin "dict.update.loop" ⟨[.ref d, .ref I, .int n t0, res], []⟩) R s' := by
  have W := Walks.list (prog := prog) (w := w) hh I ax hne items
  intro k
  induction k with
  | zero =>
    intro i n t0 s' hk hi hst hxs hd hk' e1 e2 e3 hR
    have hin : i = kvs.length := by lia
    rw [← hsI] at hin
    refine codeAny_builtin entry_dul ?_
    rw [Around.under_plainId plain_dul _]
    show wpAny _ A.in1 (pyNext (.ref I) >>= _) _ _ s'
    refine wpAny_bind (W.done s' _ _ ⟨hin ▸ hst, hxs⟩ fun h' tk hm => ?_)
    rw [hin, hsI, List.take_length] at hd
    obtain ⟨hp, g, dd, tt, os⟩ := s'
    simp only at e1 e2 e3
    subst e1; subst e2; subst e3
    show wpAny _ A.in1 (Builtin.Dict.addKeywords d [] >>= _) _ _ _
    refine wpAny_bind (wpAny_pure ?_)
    show wpAny _ A.in1 (ret res) _ _ _
    refine wpAny_pure (hR h' tk ?_ fun b o hb hI e => hm b o (by simpa using hI) (hk' b o hb hI e))
    obtain ⟨o, es, ep, ho, rest⟩ := hd
    exact ⟨o, es, ep, hm d o (by simpa using hdI) ho, rest⟩
  | succ k ih =>
    intro i n t0 s' hk hi hst hxs hd hk' e1 e2 e3 hR
    have hlt : i < kvs.length := by lia
    refine codeAny_builtin entry_dul ?_
    rw [Around.under_plainId plain_dul _]
    show wpAny _ A.in1 (pyNext (.ref I) >>= _) _ _ s'
    refine wpAny_bind (W.item i s' _ _ (hsI ▸ hlt) ⟨hst, hxs⟩ fun v h' tk hP hst' hm => ?_)
    obtain ⟨a, t, p, ob, hp, rfl, had, haI, hc, ⟨nn, hdat⟩, hob⟩ := hPP i v hP
    have hob' : h'.get? a = some ob := hm a ob (by simpa using haI) (hk' a ob had haI hob)
    have hT : Shared.TypeIs { s' with heap := h', toks := tk } (.ref a) "tuple" := ⟨_, hob', hc⟩
    have hd' : h'.DictOf (intKind prog w) d (kvs.take i) := by
      obtain ⟨o, es, ep, ho, rest⟩ := hd
      exact ⟨o, es, ep, hm d o (by simpa using hdI) ho, rest⟩
    have hp' : kvs[i] = p := by rw [List.getElem?_eq_getElem hlt] at hp; exact Option.some.inj hp
    have hfresh : ¬ ((kvs.take i).any fun kv => decide (kv.1 = p.1)) = true := by
      intro hh
      obtain ⟨x, hx, he⟩ := List.any_eq_true.mp hh
      have he' : x.1 = p.1 := of_decide_eq_true he
      have hsplit : kvs = kvs.take i ++ (p :: kvs.drop (i + 1)) := by
        rw [← hp', ← List.drop_eq_getElem_cons hlt, List.take_append_drop]
      rw [hsplit, List.map_append, List.map_cons, List.nodup_append] at hnd
      exact hnd.2.2 x.1 (List.mem_map.mpr ⟨x, hx, rfl⟩) p.1 List.mem_cons_self he'
    show wpAny _ A.in1 (holding _ _ >>= _) _ _ _
    refine wpAny_bind (wpAny_holding ?_)
    show wpAny _ A.in1 (tryCatch (Builtin.Dict.pairItems (.ref a)) _ >>= _) _ _ _
    refine wpAny_bind (wpAny_tryCatch ?_)
    unfold Builtin.Dict.pairItems
    refine wpAny_bind (wpAny_typeOf hT ?_)
    rw [if_pos (by decide)]
    refine wpAny_bind (wpAny_seqItems hob' hdat ?_)
    refine wpAny_pure ?_
    show wpAny _ A.in1 (holding _ (dictSet d (.int p.1 t) p.2)) _ _ _
    refine wpAny_holding (wpAny_dictSet_pairs (knd := intKind prog w) (k := p.1) (intKind_is _ _ _ _) hd' (fun h2 hd2 hs2 => ?_) (by rw [List.length_take]; lia))
    have hst2 : h2.IsListIter I ax (i + 1) ∧ h2.IsList ax items := W.frame (i + 1) h' h2 hst' fun b hb o e => by
      rw [hs2.2 b (fun hbd => by subst hbd; simp only [List.mem_cons, List.not_mem_nil, or_false] at hb; rcases hb with rfl | rfl; exact hdI rfl; exact hda rfl)]; exact e
    refine wpAny_pure ⟨plainId_quiet plain_dul _, ih (i + 1) _ _ _ (by lia) hlt hst2.1 hst2.2 ?_ (fun b o hb hI e => ?_) e1 e2 e3 hR⟩
    · have : kvs.take (i + 1) = stored (kvs.take i) p.1 p.2 := by
        rw [stored, if_neg hfresh, ← List.take_append_getElem hlt, hp']
      rw [this]; exact hd2
    · show h2.get? b = some o
      rw [hs2.2 b hb]; exact hm b o (by simpa using hI) (hk' b o hb hI e)

theorem call_dict_pairs {l : Addr} {xs : Array Value} {n : Nat} {kvs : List (Int × Value)} {Q : Value → Shared → Prop} (hA : A.handled = none)
    (hl : s.heap.get? l = some (W.listOf xs n)) (hx : xs.size = kvs.length) (hnd : (kvs.map (·.1)).Nodup) (hsz : kvs.length ≤ sizeLine)
    (hp : ∀ (i : Nat) (v : Value), xs[i]? = some v → ∃ (a : Addr) (t : Tok) (p : Int × Value) (ob : Obj), kvs[i]? = some p ∧ v = .ref a ∧ ob.cls = .type "tuple" ∧ (∃ n, ob.data = .seq #[.int p.1 t, p.2] n) ∧ s.heap.get? a = some ob)
    (h : ∀ h' tk, h'.DictOf (intKind prog w) s.heap.objs.size kvs → (∀ b o, s.heap.get? b = some o → h'.get? b = some o) → Q (.ref s.heap.objs.size) { s with heap := h', toks := tk }) :
    wpAny (model prog w) A (call (.type "dict") [.ref l]) Q E s := by
  refine callType_codes (Q₁ := fun obj s₁ => obj = .ref s.heap.objs.size ∧ s₁ = { s with heap := s.heap.push { cls := .type "dict", data := .dict #[] } }) F.kt_called_dict (F.kt_typeCall_dict_1 _) F.entry_dict_init (kt_code_dict_new _ ⟨rfl, rfl⟩) ?_
  rintro obj s₁ ⟨rfl, rfl⟩
  have hnew : (s.heap.push { cls := .type "dict", data := .dict #[] }).DictOf (intKind prog w) s.heap.objs.size [] := Heap.DictOf.new s.heap
  have hl1 : (s.heap.push { cls := .type "dict", data := .dict #[] }).get? l = some (W.listOf xs n) := Heap.get?_push_of_some _ hl
  refine ⟨hnew.typeIs, F.args_dict_init_2 _ _, ?_⟩
  unfold Builtin.«dict.__init__»
  refine wpAny_bind ?_
  unfold Builtin.Dict.selfAndRest
  refine wpAny_bind (wpAny_notOrdered_dict hnew.typeIs ?_)
  show wpAny _ _ (pure (s.heap.objs.size, [Value.ref l])) _ _ _
  refine wpAny_pure ?_
  show wpAny _ _ (Builtin.Dict.updateFrom "dict.__init__" s.heap.objs.size (.ref l) [] .none) _ _ _
  unfold Builtin.Dict.updateFrom
  have hT : Shared.TypeIs { s with heap := s.heap.push { cls := .type "dict", data := .dict #[] } } (.ref l) "list" := ⟨_, hl1, rfl⟩
  refine wpAny_bind (wpAny_typeOf hT ?_)
  rw [if_pos (by decide)]
  refine wpAny_bind (keys_none (s := { s with heap := s.heap.push { cls := .type "dict", data := .dict #[] } }) hl1 (by first | exact hA | (simp only [Around.under]; exact hA) | simpa using hA) fun h1 tk1 hk1 => ?_)
  have hl2 := hk1 _ _ hl1
  have hl3 : h1.IsList l xs := ⟨_, hl2, rfl, n, rfl⟩
  show wpAny _ _ (rule _ >>= _) _ _ _
  refine wpAny_bind (wpAny_rule ?_)
  refine wpAny_bind (wpAny_pyIter_list hl3 ?_)
  have hb2 : h1.get? l = some (W.listOf xs n) := hl2
  have hlS : l < h1.objs.size := Heap.lt_size hb2
  have hdS : s.heap.objs.size < h1.objs.size := by
    obtain ⟨o, es, ep, ho, rest⟩ := hnew
    exact Heap.lt_size (hk1 _ _ ho)
  have hdl : s.heap.objs.size ≠ l := Nat.ne_of_gt (Heap.lt_size hl)
  have hd2 : (h1.push { cls := .type "list_iterator", data := .fields #[.ref l, .int 0 0] }).DictOf (intKind prog w) s.heap.objs.size [] := by
    obtain ⟨o, es, ep, ho, rest⟩ := hnew
    exact ⟨o, es, ep, Heap.get?_push_of_some _ (hk1 _ _ ho), rest⟩
  have hold : ∀ b o, s.heap.get? b = some o → (h1.push { cls := .type "list_iterator", data := .fields #[.ref l, .int 0 0] }).get? b = some o := fun b o e => Heap.get?_push_of_some _ (hk1 _ _ (Heap.get?_push_of_some _ e))
  refine wpAny_bind (wpAny_pure ?_)
  refine wpAny_pure ⟨plainId_quiet plain_dul _, ?_⟩
  refine update_loop (s := s) (I := h1.objs.size) (ax := l) (d := s.heap.objs.size) (kvs := kvs) (items := xs) ?hAi (Nat.ne_of_lt hlS) hx ?W (Nat.ne_of_lt hdS) hdl hnd hsz .none (kvs.length - 0) 0 0 0 { s with heap := h1.push { cls := .type "list_iterator", data := .fields #[.ref l, .int 0 0] }, toks := tk1 } (by lia) (Nat.zero_le _) ⟨_, Heap.get?_push_size _ rfl, rfl, rfl⟩ ⟨_, Heap.get?_push_of_some _ hl2, rfl, n, rfl⟩ ?_ (fun b o _ _ e => hold b o e) rfl rfl rfl ?_
  · simp [hA]
  · intro i v hv
    obtain ⟨a, t, p, ob, e1, e2, e3, e4, e5⟩ := hp i v hv
    exact ⟨a, t, p, ob, e1, e2, Nat.ne_of_lt (Heap.lt_size e5), Nat.ne_of_lt (Nat.lt_trans (Heap.lt_size e5) hdS), e3, e4, e5⟩
  · exact hd2
  · intro h' tk hd' hk'
    exact ⟨rfl, h h' tk hd' fun b o e => hk' b o (Nat.ne_of_lt (Heap.lt_size e)) (Nat.ne_of_lt (Nat.lt_trans (Heap.lt_size e) hdS)) e⟩
variable {h₀ : Heap} {L : Addr} {m : Str → Option Value} {news : List (Addr × Obj)}
theorem dict_ok {l : Addr} {vs : List Value} {n : Nat} {kvs : List (Int × Value)} {Q : Value → Shared → Prop} (hA : A.handled = none) (hbig : sysModules < h₀.objs.size)
    (F : Fr h₀ L s.heap m) (N : News h₀ L s.heap news) (hl : (l, W.listOf vs.toArray n) ∈ news) (hx : vs.length = kvs.length) (hnd : (kvs.map (·.1)).Nodup) (hsz : kvs.length ≤ sizeLine)
    (hp : ∀ (i : Nat) (v : Value), vs[i]? = some v → ∃ (a : Addr) (t : Tok) (p : Int × Value), kvs[i]? = some p ∧ v = .ref a ∧ (a, ({ cls := .type "tuple", data := .seq #[.int p.1 t, p.2] } : Obj)) ∈ news)
    (h : ∀ d o h' tk', Fr h₀ L h' m → News h₀ L h' ((d, o) :: news) → (d == sysModules) = false → o.IsDictOf (intKind prog w) kvs → (∀ p ∈ news, p.1 ≠ d) → Q (.ref d) { s with heap := h', toks := tk' }) :
    wpAny (model prog w) A (call (.type "dict") [.ref l]) Q E s := by
  refine call_dict_pairs hA (N _ hl).1 (by simpa using hx) hnd hsz (fun i v hv => ?_) fun h' tk hd hk => ?_
  · rw [List.getElem?_toArray] at hv
    obtain ⟨a, t, p, e1, e2, e3⟩ := hp i v hv
    exact ⟨a, t, p, _, e1, e2, rfl, ⟨_, rfl⟩, (N _ e3).1⟩
  · obtain ⟨o, ho, hdo⟩ := Heap.dictOf_iff.mp hd
    obtain ⟨oL, _, _, hL, _⟩ := F.ns
    have hLlt : L < s.heap.objs.size := Heap.lt_size hL
    refine h _ o h' tk ⟨F.ns.at' fun o' e => hk L o' e, fun b o' e => hk b o' (F.keep b o' e), F.above⟩ (fun p hp => ?_) (F.notModules hbig) hdo N.apart
    rcases List.mem_cons.mp hp with rfl | hp
    · refine ⟨ho, Nat.ne_of_gt hLlt, ?_⟩
      cases hq : h₀.get? s.heap.objs.size with
      | none => rfl
      | some o' => exact absurd (Heap.lt_size (F.keep _ _ hq)) (Nat.lt_irrefl _)
    · exact ⟨hk _ _ (N p hp).1, (N p hp).2.1, (N p hp).2.2⟩
end
section
variable {prog : Program} {w : World} {A : Around} {E : Value → Shared → Prop} {s : Shared} {h₀ : Heap} {L : Addr} {m : Str → Option Value} {news : List (Addr × Obj)}
theorem len_L {l : Addr} {vs : List Value} {n : Nat} {Q : Value → Shared → Prop} (N : News h₀ L s.heap news) (hm : (l, W.listOf vs.toArray n) ∈ news) (hz : vs.length ≤ 1000)
    (h : Q (.int (vs.length : Nat) (s.toks + 1)) { s with toks := s.toks + 1 + 1 }) : wpAny (model prog w) A (call (.builtin "len") [.ref l]) Q E s :=
  len_list (items := vs.toArray) (PySem.IsL.isList (n := n) (N _ hm).1) (by rw [List.size_toArray]; lia) (by rw [List.size_toArray]; exact h)
theorem reverse_L {D : Addr} {vs : List Value} {n : Nat} {news' : List (Addr × Obj)} {Q : Value → Shared → Prop} (F : Fr h₀ L s.heap m) (N : News h₀ L s.heap news) (U : Upd D (W.listOf vs.toArray n) (W.listOf vs.reverse.toArray n) news news') (hz : vs.length ≤ 1000)
    (h : ∀ h', Fr h₀ L h' m → News h₀ L h' news' → Q .none { s with heap := h' }) : wpAny (model prog w) A (call (.builtin "list.reverse") [.ref D]) Q E s :=
  kl_reverse F N (by rw [List.toList_toArray]) U (by rw [List.toList_toArray, PySem.sizeLine_eq]; lia) h
variable {env : Env} {target : Expr} {body : List Stmt} {Q : Flow → Shared → Prop}
theorem go_range {I : Addr} {x left step : Int} {v : Value} {Q : Unit → Shared → Prop} (hit : IsRangeIter s.heap I x left step) (hQ : Q () s) :
    wpAny (model prog w) A (letOwnedTupleGo target (.ref I) v) Q E s := by
  have ho : s.heap.get? I = some _ := hit
  unfold letOwnedTupleGo
  split
  all_goals first
    | exact wpAny_pure hQ
    | (split
       · rename_i e; cases e
         refine wpAny_bind (wpAny_load ho ?_)
         (try dsimp only)
         split
         · rename_i h
           have e2 : (["enumerate", "zip", "dict_itemiterator", "dict_reverseitemiterator", "odict_iterator", "itertools.zip_longest", "itertools.pairwise"].contains "range_iterator") = false := by decide
           rw [e2, Bool.false_and] at h
           cases h
         · exact wpAny_pure hQ
       · exact wpAny_pure hQ)
/-- a for over a range by ones -/
theorem iterR {r : Addr} {a b : Int} {t u v : Tok} {n : Nat} {m₀ : Str → Option Value} {nw₀ : List (Addr × Obj)} (J : Nat → (Str → Option Value) → List (Addr × Obj) → Prop)
    (hh : A.handled = none) (hr : IsRange s.heap r a b 1 t u v) (hsm : Builtin.Range.small a b 1 = true) (hn : Builtin.Range.rangeSize a b 1 = ((n : Nat) : Int)) (F : Fr h₀ env.locals s.heap m₀) (N : News h₀ env.locals s.heap nw₀) (hj : J 0 m₀ nw₀)
    (turn : ∀ i tv m₁ nw I oI h tk, i < n → J i m₁ nw → (∀ p ∈ nw, p.1 ≠ I) → Fr h₀ env.locals h m₁ → News h₀ env.locals h ((I, oI) :: nw) →
      wpAny (model prog w) A (assign target env (.int (a + (i : Int)) tv)) (fun _ s₃ => wpAny (model prog w) A (execs body env) (TurnPost h₀ env.locals I oI (J (i + 1)) Q { s with heap := h, toks := tk }) E s₃) E { s with heap := h, toks := tk })
    (done : ∀ m₁ nw h tk, J n m₁ nw → Fr h₀ env.locals h m₁ → News h₀ env.locals h nw → Q .next { s with heap := h, toks := tk }) :
    wpAny (model prog w) A (pyIter (.ref r)) (fun it s₂ => TurnsAt prog w A h₀ env target body Q E it s₂) E s := by
  refine wpAny_pyIter_range hr hsm ?_
  refine iterW (n := n) (nw₀ := nw₀) (m₀ := m₀) J (LCg.range_walks hh a n) (fun i v s Q E st hq => go_range st hq) ?_ (next_is_new F) (fun i h st => ⟨_, st⟩) ?_
    (by show IsRangeIter _ _ _ _ _; rw [hn]; simpa using Heap.get?_push_size _ rfl) (F.push _) (fun p hp => ⟨Heap.get?_push_of_some _ (N p hp).1, (N p hp).2⟩) (fun p hp => Nat.ne_of_lt (Heap.lt_size (N p hp).1)) hj ?_ ?_
  · intro h
    exact absurd F.ns.lt (List.mem_singleton.mp h ▸ Nat.lt_irrefl _)
  · intro b hb hbI
    exact absurd (List.mem_singleton.mp hb) hbI
  · rintro i v m₁ nw oI h tk hi ⟨tv, rfl⟩ hJ off F₁ N₁
    exact turn i tv m₁ nw _ oI h tk hi hJ off F₁ N₁
  · intro m₁ nw h tk hJ F' N'
    exact done m₁ nw h tk hJ F' N'
end
local macro_rules | `(tactic| walk_at "lens") => pure (κtO [κli, (κpa [(κtr [(κsmo [`List.length_map, `List.length_append, `List.length_reverse, `List.length_cons, `List.length_nil] none)]), κli])])
local macro_rules | `(tactic| walk_at "call builtin:len") => pure (κpa [κtC (κap `call [(κap `Value.builtin [(κsl "len")]), (κlst [κgr])]) (κtA `len_L [κqa, κqm, κqn, κq0]), (κtr [(κsmo [`List.length_map, `List.length_append, `List.length_cons, `List.length_nil] none)])])
local macro_rules | `(tactic| walk_at "truthy ref") => pure (κtC (κap `truthy [κgr]) (κtA `ktl_truthyK [κqa, κqm, κqn, κq0]))
local macro_rules | `(tactic| walk_at "call builtin:list.reverse") => pure (κtC (κap `call [κgb, (κlst [κgr])]) (κtI (κtA `reverse_L [κqa, κqa, κqk, κqn, κq0])))
/-- append to a list of the ledger, the items as a Lean list -/
theorem append_L {prog : Program} {w : World} {A : Around} {E : Value → Shared → Prop} {s : Shared} {h₀ : Heap} {L D : Addr} {m : Str → Option Value} {news news' : List (Addr × Obj)} {vs : List Value} {n : Nat} {x : Value} {Q : Value → Shared → Prop} (F : Fr h₀ L s.heap m) (N : News h₀ L s.heap news)
    (U : Upd D (W.listOf vs.toArray n) (W.listOf (vs ++ [x]).toArray (n + 1)) news news') (hsz : vs.length ≤ 1000)
    (h : ∀ h', Fr h₀ L h' m → News h₀ L h' news' → Q .none { s with heap := h' }) : wpAny (model prog w) A (call (.builtin "list.append") [.ref D, x]) Q E s :=
  append_K F N (by rw [List.push_toArray]; exact U) h (by rw [PySem.sizeLine_eq, List.size_toArray]; lia)
local macro_rules | `(tactic| walk_at "call builtin:list.append") => pure (κtC (κap `call [κgb, (κlst [κgr, κh_])]) (κtI (κtA `append_L [κqa, κqa, κqk, κqn, κq0])))
local macro_rules | `(tactic| walk_at "call type:range") => pure (κtI (κtO [κtD `range1_rows [κqa, κqa, κq0], κtD `range2_rows [κqa, κqa, κq0]]))
local macro_rules | `(tactic| walk_at "exec For Name Call cons nil") => pure (κwa "xF")
local macro_rules | `(tactic| walk_at "exec For Name Name") => pure (κwa "xF")
local macro_rules | `(tactic| walk_at "exec For Name Name cons nil") => pure (κwa "xF")
local macro_rules | `(tactic| walk_at "exec For Name") => pure (κwa "xF")
theorem item_chrI {prog : Program} {w : World} {A : Around} {E : Value → Shared → Prop} {s : Shared} {value slice : Expr} {x : Str} {t u : Tok} {k : Int} {c : Nat} {Q : Value → Shared → Prop} (h0 : 0 ≤ k) (hfit : k < 2 ^ 63) (hz : x.cps[k.toNat]? = some c)
    (h : Q (.str ⟨#[c]⟩ s.toks) { s with toks := s.toks + 1 })
    (hs : subscripted slice false (.str x t) (.int k u) = operate [.str x t, .int k u] (getItem (.str x t) (.int k u)) := by with_unfolding_all rfl)
    (ht : ∀ r, letTemporaryGo value (.str x t) r = pure () := by intro _; with_unfolding_all rfl) :
    wpAny (model prog w) A (subscriptTail value slice (.str x t) (.int k u)) Q E s := by
  obtain ⟨i, rfl⟩ : ∃ i : Nat, k = (i : Int) := ⟨k.toNat, by lia⟩
  exact item_chr (by simpa using hz) (by lia) h hs ht
local macro_rules | `(tactic| walk_at "subscriptTail Name BinOp str int") => pure (κpa [κhr, (κkd [(κta `Lean.Parser.Tactic.refine' "refine'" [(κap `item_chrI [(κsy `k0), (κsy `k2), (κsy `k1), κq0, (κsy `k3), (κsy `k4)])]), (κcs `k1 κas), (κcs `k0 κli), (κcs `k2 κli), (κcs `k3 (κwua κrfs)), (κcs `k4 (κpa [(κta `Lean.Parser.Tactic.intro "intro" [κnu [κh_]]), (κwua κrfs)])), κwh])])
inductive TurnAt (ro : List (Addr × Obj)) (a : Addr) (t : Turn) : Prop
  | mk : ∀ t1 t2 t3, (TupAt ro a [.int t.number t1, .int t.start t2, .int t.stop t3]) → TurnAt ro a t
def partOf (cs : List Nat) (b e : Nat) : Str := PySem.Txt.slice (textOf cs) (some (b : Int)) (some (e : Int))
inductive TokAt (ro : List (Addr × Obj)) (a : Addr) (x : Str) : Prop
  | mk : ∀ t1 t2, (TupAt ro a [.str (Str.ofString "A") t1, .str x t2]) → TokAt ro a x
def tokensD (cs : List Nat) : List Turn → List Str
  | [] => []
  | t :: r => if t.number = 0 then partOf cs t.first t.stop :: tokensD cs r else tokensD cs r
def echoD (cs : List Nat) (more : Bool) : List Turn → Str → Str
  | [], x => x
  | t :: r, x => echoD cs more r (if t.number = 0 then x else if t.number < 0 ∨ more = false then x ++ partOf cs t.first t.stop else x)
inductive dueJ (a : Autos) (cuts : Int → Bool × Int) (more : Bool) (cs : List Nat) (ro : List (Addr × Obj)) (tu kk : Addr) (base : Str → Option Value) (n : Nat) (m : Str → Option Value) (nw : List (Addr × Obj)) : Prop
  | mk : ∀ (done : List Turn) (pos first : Nat) (ec : Str) (ta ka : List Addr) (n1 n2 : Nat) (ro' : List (Addr × Obj)) (u1 u2 u3 : Option Value) (t1 t2 t3 : Tok), (n + pos = cs.length) → (done.length ≤ pos) → (first ≤ pos) → (done ++ dueD a cuts more cs (cs.length - done.length) pos first = dueD a cuts more cs cs.length 0 0) → (nw = (tu, W.listOf (ta.map Value.ref).toArray n1) :: (kk, W.listOf (ka.map Value.ref).toArray n2) :: ro') → (Sub ro ro') → ((∀ p ∈ ro', p.1 ≠ tu)) → ((∀ p ∈ ro', p.1 ≠ kk)) → (Each (TurnAt ro') ta done) → (Each (TokAt ro') ka (tokensD cs done)) → (echoD cs more done (Str.ofString "") = ec) → (ec.length ≤ 10 * pos) → (m = up (Str.ofString "end") u3 (up (Str.ofString "number") u2 (up (Str.ofString "begins") u1 (up (Str.ofString "first") (some (.int first t1)) (up (Str.ofString "at") (some (.int pos t2)) (up (Str.ofString "echoed") (some (.str ec t3))
      (up (Str.ofString "tokens") (some (.ref kk)) (up (Str.ofString "turns") (some (.ref tu)) base)))))))) → dueJ a cuts more cs ro tu kk base n m nw
theorem same_obj {h₀ h : Heap} {L a : Addr} {o o' : Obj} {r : List (Addr × Obj)} (N : News h₀ L h r) (x : (a, o) ∈ r) (y : (a, o') ∈ r) : o = o' := by
  have e := (N _ x).1
  rw [(N _ y).1] at e
  exact (Option.some.inj e).symm
/-- a ledger without the entries at an address -/
def carve (a : Addr) (r : List (Addr × Obj)) : List (Addr × Obj) := r.filter (fun p => decide (@Ne Nat p.1 a))
theorem carve_off {a : Addr} {r : List (Addr × Obj)} : ∀ p ∈ carve a r, p.1 ≠ a := fun p hp => of_decide_eq_true (List.mem_filter.mp hp).2
theorem carve_mem {a : Addr} {r : List (Addr × Obj)} {p : Addr × Obj} (h : p ∈ r) (ne : p.1 ≠ a) : p ∈ carve a r := List.mem_filter.mpr ⟨h, decide_eq_true ne⟩
theorem carve_sub {a : Addr} {r : List (Addr × Obj)} {p : Addr × Obj} (h : p ∈ carve a r) : p ∈ r := (List.mem_filter.mp h).1
/-- the choice, called with two lists of the ledger that stay to be written -/
theorem choice_two {w : World} {k : Nat} {h₀ : Heap} {L : Addr} {A : Around} {m : Str → Option Value} {ro : List (Addr × Obj)} {s : Shared} {au cu tu kk : Addr} {xs ys : Array Value} {n1 n2 : Nat} {rows tags : List (List Int)} {cuts : Int → Bool × Int} {cs : List Nat} {tx ta : Tok} {pos : Nat} {Q E : Value → Shared → Prop}
    (S : Sit w (k + 2) h₀ L A) (F : Fr h₀ L s.heap m) (N : News h₀ L s.heap ((tu, W.listOf xs n1) :: (kk, W.listOf ys n2) :: ro)) (o1 : ∀ p ∈ ro, p.1 ≠ tu) (o2 : ∀ p ∈ ro, p.1 ≠ kk) (o3 : @Ne Nat tu kk) (AA : AutoAt ro au rows tags) (AO : AutoOk rows tags) (CA : CutsAt ro cu cuts)
    (hx : cs.length ≤ 8) (hcs : ∀ c ∈ cs, c < 3) (hp8 : pos < cs.length)
    (ret : ∀ a h' tk' ro' t1 t2 (nb : Int) (e' : Nat), Fr h₀ L h' m → News h₀ L h' ((tu, W.listOf xs n1) :: (kk, W.listOf ys n2) :: ro') → (∀ p ∈ ro', p.1 ≠ tu) → (∀ p ∈ ro', p.1 ≠ kk) → Sub ro ro' →
      (nb, (e' : Int)) = chooseD rows tags cuts pos (cs.drop pos) 0 0 (-1, (pos : Int) + 1) → (nb = -1 ∨ nb = 0 ∨ nb = 1) → pos < e' → e' ≤ cs.length → (a, ({ cls := .type "tuple", data := .seq #[.int nb t1, .int (e' : Int) t2] } : Obj)) ∈ ro' → Q (.ref a) { s with heap := h', toks := tk' }) :
    wpAny (MD w) A (call (.ref 869) [.ref au, .ref cu, .str (textOf cs) tx, .int pos ta]) Q E s := by
  have sb : Sub ro ((tu, W.listOf xs n1) :: (kk, W.listOf ys n2) :: ro) := (Sub.refl _).cons.cons
  have CA' : CutsAt ((tu, W.listOf xs n1) :: (kk, W.listOf ys n2) :: ro) cu cuts := by
    obtain ⟨c0, c1, x, y, z⟩ := CA
    exact ⟨c0, c1, x.sub sb, y.sub sb, z.sub sb⟩
  refine choice_ok S F N (AA.sub sb) AO CA' hx hcs hp8 fun a h' tk' r t1 t2 F' N' sub hv => ?_
  have mt := sub _ (.head _)
  have mk := sub _ (.tail _ (.head _))
  have a1 : a ≠ tu := fun e => by
    have := congrArg Obj.cls (same_obj N' (e ▸ hv : (tu, _) ∈ r) mt)
    simp [W.listOf] at this
  have a2 : a ≠ kk := fun e => by
    have := congrArg Obj.cls (same_obj N' (e ▸ hv : (kk, _) ∈ r) mk)
    simp [W.listOf] at this
  have b := choose_bounds (rows := rows) (cuts := cuts) (pos := (pos : Int)) (tag_two AO) (cs := cs.drop pos) (st := 0) (len := 0) (fd := (-1, (pos : Int) + 1)) (by lia) (.inl rfl) (by simp only; lia) (by simp only; lia) (.inl (by intro e; have := congrArg List.length e; simp at this; lia))
  rw [List.length_drop] at b
  obtain ⟨e', he'⟩ : ∃ e' : Nat, (e' : Int) = (chooseD rows tags cuts pos (cs.drop pos) 0 0 (-1, (pos : Int) + 1)).2 := ⟨(chooseD rows tags cuts pos (cs.drop pos) 0 0 (-1, (pos : Int) + 1)).2.toNat, by lia⟩
  rw [← he'] at hv
  refine ret a h' tk' (carve tu (carve kk r)) t1 t2 _ e' F' (fun p hp => by
    rcases List.mem_cons.mp hp with rfl | hp
    · exact N' _ mt
    · rcases List.mem_cons.mp hp with rfl | hp
      · exact N' _ mk
      · exact N' _ (carve_sub (carve_sub hp))) carve_off (fun p hp => carve_off p (carve_sub hp)) (fun p hp => carve_mem (carve_mem (sub _ (sb p hp)) (o2 p hp)) (o1 p hp)) (Prod.ext rfl he') b.1 (by lia) (by lia) (carve_mem (carve_mem hv a2) a1)
theorem pos_lt {cs : List Nat} {pos : Nat} (h : (pos : Int) < (textOf cs).length) : pos < cs.length := by
  have e : (textOf cs).length = cs.length := by simp [textOf, Str.length]
  lia
theorem tokens_len {cs : List Nat} : ∀ {ts : List Turn}, (tokensD cs ts).length ≤ ts.length
  | [] => Nat.le_refl _
  | t :: r => by
    unfold tokensD
    have := tokens_len (cs := cs) (ts := r)
    split
    · simp only [List.length_cons]; lia
    · simp only [List.length_cons]; lia
theorem item_at {cs : List Nat} {pos c : Nat} (h0 : (pos : Int) ≠ 0) (hc : cs[pos - 1]? = some c) : PySem.Txt.item (textOf cs) ((pos : Int) - 1) = ⟨#[cpOf c]⟩ := by
  have hl : pos - 1 < cs.length := (List.getElem?_eq_some_iff.mp hc).1
  have hlen : (textOf cs).length = cs.length := by simp [textOf, Str.length]
  have e1 : seqIndex? ((pos : Int) - 1) (textOf cs).length = some (pos - 1) := by
    unfold seqIndex?
    have e : (if (pos : Int) - 1 < 0 then (pos : Int) - 1 + (textOf cs).length else (pos : Int) - 1) = ((pos - 1 : Nat) : Int) := by rw [if_neg (by lia)]; lia
    simp only [e]
    rw [if_pos (by simp; lia)]
    rfl
  unfold PySem.Txt.item PySem.Txt.charAt
  rw [e1]
  simp [textOf, hc]
theorem begins_of {cs : List Nat} {pos : Nat} {b : Bool} (hcs : ∀ c ∈ cs, c < 3) (hp : pos < cs.length) (h0 : (pos : Int) ≠ 0) (h : (PySem.Txt.item (textOf cs) ((pos : Int) - 1) == Str.ofString "\n") = b) : beginsAt cs pos = if b = true then 1 else 0 := by
  obtain ⟨c, hc⟩ : ∃ c, cs[pos - 1]? = some c := ⟨_, List.getElem?_eq_getElem (by lia)⟩
  rw [item_at h0 hc] at h
  have hc3 := hcs c (List.mem_of_getElem? hc)
  unfold beginsAt
  rw [hc]
  have hp0 : ¬ pos = 0 := by lia
  obtain rfl | rfl | rfl : c = 0 ∨ c = 1 ∨ c = 2 := by lia
  · have : b = true := by rw [← h]; decide
    simp [this]
  · have : b = false := by rw [← h]; decide
    simp [this, hp0]
  · have : b = false := by rw [← h]; decide
    simp [this, hp0]
theorem begins_zero {cs : List Nat} {pos : Nat} (h0 : (pos : Int) = 0) : beginsAt cs pos = 1 := by
  unfold beginsAt
  rw [if_pos (.inl (by lia))]
theorem tokensD_snoc {cs : List Nat} {t : Turn} : ∀ {ts : List Turn}, tokensD cs (ts ++ [t]) = tokensD cs ts ++ (if t.number = 0 then [partOf cs t.first t.stop] else [])
  | [] => by
    simp only [List.nil_append, tokensD]
  | x :: r => by
    simp only [List.cons_append, tokensD]
    rw [tokensD_snoc]
    split <;> simp
theorem echoD_snoc {cs : List Nat} {more : Bool} {t : Turn} : ∀ {ts : List Turn} {x : Str}, echoD cs more (ts ++ [t]) x = (if t.number = 0 then echoD cs more ts x else if t.number < 0 ∨ more = false then echoD cs more ts x ++ partOf cs t.first t.stop else echoD cs more ts x)
  | [], x => by simp only [List.nil_append, echoD]
  | y :: r, x => by
    simp only [List.cons_append, echoD]
    rw [echoD_snoc]
theorem due_step {a : Autos} {cuts : Int → Bool × Int} {more : Bool} {cs : List Nat} {done : List Turn} {pos first e' : Nat} {nb : Int} {all : List Turn} (hdl : done.length ≤ pos) (hp : pos < cs.length) (hch : (nb, (e' : Int)) = pickD a cuts cs pos)
    (hR : done ++ dueD a cuts more cs (cs.length - done.length) pos first = all) :
    (done ++ [⟨nb, first, pos, e'⟩]) ++ dueD a cuts more cs (cs.length - (done ++ [(⟨nb, first, pos, e'⟩ : Turn)]).length) e' (if nb = 1 ∧ more = true then first else e') = all := by
  obtain ⟨n, hn⟩ : ∃ n, cs.length - done.length = n + 1 := ⟨cs.length - done.length - 1, by lia⟩
  rw [hn] at hR
  have e1 : cs.length - (done ++ [(⟨nb, first, pos, e'⟩ : Turn)]).length = n := by simp; lia
  rw [e1]
  unfold dueD at hR
  rw [if_pos hp, ← hch] at hR
  simp only [Int.toNat_natCast] at hR
  rw [← hR, List.append_assoc]
  rfl
theorem locA {A B C D E ec kk tu u1 u2 u3 f a : Option Value} {base : Str → Option Value} :
    up (Str.ofString "at") A (up (Str.ofString "first") B (up (Str.ofString "end") C (up (Str.ofString "number") D (up (Str.ofString "begins") E (up (Str.ofString "end") u3 (up (Str.ofString "number") u2 (up (Str.ofString "begins") u1 (up (Str.ofString "first") f (up (Str.ofString "at") a (up (Str.ofString "echoed") ec (up (Str.ofString "tokens") kk (up (Str.ofString "turns") tu base)))))))))))) =
    up (Str.ofString "end") C (up (Str.ofString "number") D (up (Str.ofString "begins") E (up (Str.ofString "first") B (up (Str.ofString "at") A (up (Str.ofString "echoed") ec (up (Str.ofString "tokens") kk (up (Str.ofString "turns") tu base))))))) := by
  funext y
  by_cases h0 : y = Str.ofString "at"
  · subst h0; rfl
  by_cases h1 : y = Str.ofString "first"
  · subst h1; rfl
  by_cases h2 : y = Str.ofString "end"
  · subst h2; rfl
  by_cases h3 : y = Str.ofString "number"
  · subst h3; rfl
  by_cases h4 : y = Str.ofString "begins"
  · subst h4; rfl
  by_cases h5 : y = Str.ofString "echoed"
  · subst h5; rfl
  by_cases h6 : y = Str.ofString "tokens"
  · subst h6; rfl
  by_cases h7 : y = Str.ofString "turns"
  · subst h7; rfl
  simp only [if_neg h0, if_neg h1, if_neg h2, if_neg h3, if_neg h4, if_neg h5, if_neg h6, if_neg h7, up]
theorem locB {A B C D E ec ec0 kk tu u1 u2 u3 f a : Option Value} {base : Str → Option Value} :
    up (Str.ofString "at") A (up (Str.ofString "first") B (up (Str.ofString "echoed") ec (up (Str.ofString "end") C (up (Str.ofString "number") D (up (Str.ofString "begins") E (up (Str.ofString "end") u3 (up (Str.ofString "number") u2 (up (Str.ofString "begins") u1 (up (Str.ofString "first") f (up (Str.ofString "at") a (up (Str.ofString "echoed") ec0 (up (Str.ofString "tokens") kk (up (Str.ofString "turns") tu base))))))))))))) =
    up (Str.ofString "end") C (up (Str.ofString "number") D (up (Str.ofString "begins") E (up (Str.ofString "first") B (up (Str.ofString "at") A (up (Str.ofString "echoed") ec (up (Str.ofString "tokens") kk (up (Str.ofString "turns") tu base))))))) := by
  funext y
  by_cases h0 : y = Str.ofString "at"
  · subst h0; rfl
  by_cases h1 : y = Str.ofString "first"
  · subst h1; rfl
  by_cases h2 : y = Str.ofString "end"
  · subst h2; rfl
  by_cases h3 : y = Str.ofString "number"
  · subst h3; rfl
  by_cases h4 : y = Str.ofString "begins"
  · subst h4; rfl
  by_cases h5 : y = Str.ofString "echoed"
  · subst h5; rfl
  by_cases h6 : y = Str.ofString "tokens"
  · subst h6; rfl
  by_cases h7 : y = Str.ofString "turns"
  · subst h7; rfl
  simp only [if_neg h0, if_neg h1, if_neg h2, if_neg h3, if_neg h4, if_neg h5, if_neg h6, if_neg h7, up]
/-- the end of a turn of _law_due -/
theorem due_close {a : Autos} {cuts : Int → Bool × Int} {more : Bool} {cs : List Nat} {ro ro2 : List (Addr × Obj)} {tu kk D : Addr} {base : Str → Option Value} {n : Nat} {m' : Str → Option Value} {done : List Turn} {pos first e' first' : Nat} {nb : Int} {ec' : Str} {ta ka' : List Addr} {kv : List Value} {n1 n2 : Nat} {h₀ h' : Heap} {L : Addr} {s : Shared} {tk : Nat} {all : List (Addr × Obj)} {u1 u2 u3 : Option Value} {t1 t2 t3 d1 d2 d3 : Tok}
    (F : Fr h₀ L h' m') (N : News h₀ L h' all) (hn : n + pos = cs.length) (hdl : done.length ≤ pos) (hp : pos < cs.length) (hR : done ++ dueD a cuts more cs (cs.length - done.length) pos first = dueD a cuts more cs cs.length 0 0)
    (hch : (nb, (e' : Int)) = pickD a cuts cs pos) (hpe : pos < e') (hel : e' ≤ cs.length) (hfp : first ≤ pos) (hf : first' = if nb = 1 ∧ more = true then first else e')
    (sub : Sub ro ro2) (hta : Each (TurnAt ro2) ta done) (hD : TupAt ro2 D [.int nb d1, .int pos d2, .int e' d3]) (off1 : ∀ p ∈ ro2, p.1 ≠ tu) (off2 : ∀ p ∈ ro2, p.1 ≠ kk)
    (hka : Each (TokAt ro2) ka' (tokensD cs (done ++ [⟨nb, first, pos, e'⟩]))) (hec : echoD cs more (done ++ [⟨nb, first, pos, e'⟩]) (Str.ofString "") = ec') (hel2 : ec'.length ≤ 10 * e')
    (hkv : kv = ka'.map Value.ref) (hall : ∀ p ∈ (tu, W.listOf (ta.map Value.ref ++ [Value.ref D]).toArray n1) :: (kk, W.listOf kv.toArray n2) :: ro2, p ∈ all)
    (hm : m' = up (Str.ofString "end") u3 (up (Str.ofString "number") u2 (up (Str.ofString "begins") u1 (up (Str.ofString "first") (some (.int first' t1)) (up (Str.ofString "at") (some (.int e' t2)) (up (Str.ofString "echoed") (some (.str ec' t3))
      (up (Str.ofString "tokens") (some (.ref kk)) (up (Str.ofString "turns") (some (.ref tu)) base)))))))) :
    WhileEnd h₀ L (dueJ a cuts more cs ro tu kk base) n s { s with heap := h', toks := tk } := by
  subst hkv
  have hall2 : ∀ p ∈ (tu, W.listOf ((ta ++ [D]).map Value.ref).toArray n1) :: (kk, W.listOf (ka'.map Value.ref).toArray n2) :: ro2, p ∈ all := by rw [List.map_append]; exact hall
  refine WhileEnd.of (cs.length - e') _ F N hall2 (by lia) ⟨done ++ [⟨nb, first, pos, e'⟩], e', first', ec', ta ++ [D], ka', n1, n2, ro2, u1, u2, u3, t1, t2, t3, by lia, by simp; lia, ?_, ?_, rfl, sub, off1, off2, hta.snoc ⟨d1, d2, d3, hD⟩, hka, hec, hel2, hm⟩
  · rw [hf]; split <;> lia
  · rw [hf]; exact due_step hdl hp hch hR
inductive DueAt (ro : List (Addr × Obj)) (a : Addr) (cs : List Nat) (more : Bool) (ts : List Turn) : Prop
  | mk : ∀ (tu kk : Addr) (ta ka : List Addr) (t : Tok), (TupAt ro a [.ref tu, .ref kk, .str (echoD cs more ts (Str.ofString "")) t]) → (ListAt ro tu (ta.map Value.ref)) → (Each (TurnAt ro) ta ts) → (ListAt ro kk (ka.map Value.ref)) → (Each (TokAt ro) ka (tokensD cs ts)) → DueAt ro a cs more ts
local macro_rules | `(tactic| walk_at "eval IfExp") => pure (κta `PySem.W.tacticK_extra_ "k_extra" [(κsl "ifexp")])
def BegP (cs : List Nat) (pos : Nat) (h : Heap) (s : Shared) (v : Value) (s' : Shared) : Prop := ∃ t tk', v = .int ((beginsAt cs pos : Nat) : Int) t ∧ s' = { s with heap := h, toks := tk' }
noncomputable section
namespace due_ok
def St : Prop := ∀ {w : World} {k : Nat} {h₀ : Heap} {L : Addr} {A : Around} {m : Str → Option Value} {ro : List (Addr × Obj)} {s : Shared} {aus cu a0 a1 : Addr} {a : Autos} {cuts : Int → Bool × Int} {cs : List Nat} {tx : Tok} {more : Bool} {Q E : Value → Shared → Prop} (S : Sit w (k + 3) h₀ L A) (F : Fr h₀ L s.heap m) (N : News h₀ L s.heap ro) (AL : ListAt ro aus [.ref a0, .ref a1]) (AA0 : AutoAt ro a0 (a.rows 0) (a.tags 0)) (AO0 : AutoOk (a.rows 0) (a.tags 0)) (AA1 : AutoAt ro a1 (a.rows 1) (a.tags 1)) (AO1 : AutoOk (a.rows 1) (a.tags 1)) (CA : CutsAt ro cu cuts) (hx : cs.length ≤ 8) (hcs : ∀ c ∈ cs, c < 3) (ret : ∀ d h' tk' ro', Fr h₀ L h' m → News h₀ L h' ro' → Sub ro ro' → DueAt ro' d cs more (dueD a cuts more cs cs.length 0 0) → Q (.ref d) { s with heap := h', toks := tk' }),
    wpAny (MD w) A (call (.ref 876) [.ref aus, .ref cu, .bool more, .str (textOf cs) tx]) Q E s
def G1 : {P : Addr → Addr → Addr → Addr → Autos → (Int → Bool × Int) → (List Nat) → Tok → World → Heap → Addr → Around → SOV → LAO → Shared → VSP → VSP → Nat → Nat → (Option (List Code)) → (List Env) → Around → Heap → (List Str) → EOV → SOV → SOV → Heap → Addr → Heap → Nat → Prop // (∀ aus cu a0 a1 a cuts cs tx w h₀ L A m ro s Q E dp un gd outer A₀ base loose mean mg mb g L' h₁ tk, P aus cu a0 a1 a cuts cs tx w h₀ L A m ro s Q E dp un gd outer A₀ base loose mean mg mb g L' h₁ tk) → St} := ⟨_, by
  intro hh w k h₀ L A m ro s aus cu a0 a1 a cuts cs tx more Q E S F N AL AA0 AO0 AA1 AO1 CA hx hcs ret
  refine lessK S ?_
  clear S k; intro S
  have hlen : (textOf cs).length = cs.length := by simp [textOf, Str.length]
  refine fillK (w := w) ?_; k_fill; intro _ _
  k_dflt (refine enter [(Str.ofString "automata", _), (Str.ofString "cuts", _), (Str.ofString "has_more", _), (Str.ofString "text", _)] S F N (by k_is) (by k_is) (fun _ _ => BindsTo.of_eq rfl) (locs rfl) rfl rfl rfl (by decide) ?_)
  clear S F N
  intro dp un gd outer A₀ base loose mean mg mb g L' h₁ tk S B F X N lt T hd hu st
  rename_i ξ1 ξ2
  clear ξ1 ξ2
  revert more AL AA0 AO0 AA1 AO1 CA hx hcs ret hlen S B F X N lt T hd hu st
  apply (hh aus cu a0 a1 a cuts cs tx w h₀ L A m ro s Q E dp un gd outer A₀ base loose mean mg mb g L' h₁ tk)⟩
def R1 (ξ : Cx × (((Addr × Addr) × (Addr × Addr)) × ((Autos × (Int → Bool × Int)) × ((List Nat) × Tok)))) := fun aus cu a0 a1 a cuts cs tx w A ro s Q => G1.1 aus cu a0 a1 a cuts cs tx w ξ.1.h₀ ξ.1.L A ξ.1.m ro s Q ξ.1.E ξ.1.dp ξ.1.un ξ.1.gd ξ.1.outer ξ.1.A₀ ξ.1.base ξ.1.loose ξ.1.mean ξ.1.mg ξ.1.mb ξ.1.g ξ.1.L' ξ.1.h₁ ξ.1.tk
def P1 (ξ : Cx × (((Addr × Addr) × (Addr × Addr)) × ((Autos × (Int → Bool × Int)) × ((List Nat) × Tok)))) : Prop := R1 ξ ξ.2.1.1.1 ξ.2.1.1.2 ξ.2.1.2.1 ξ.2.1.2.2 ξ.2.2.1.1 ξ.2.2.1.2 ξ.2.2.2.1 ξ.2.2.2.2 ξ.1.w ξ.1.A ξ.1.ro ξ.1.s ξ.1.Q
@[irreducible] def z1 : Cx × (((Addr × Addr) × (Addr × Addr)) × ((Autos × (Int → Bool × Int)) × ((List Nat) × Tok))) := ep P1 (by walk_at "ne")
@[irreducible] def aus := z1.2.1.1.1
@[irreducible] def cu := z1.2.1.1.2
@[irreducible] def a0 := z1.2.1.2.1
@[irreducible] def a1 := z1.2.1.2.2
@[irreducible] def a := z1.2.2.1.1
@[irreducible] def cuts := z1.2.2.1.2
@[irreducible] def cs := z1.2.2.2.1
@[irreducible] def tx := z1.2.2.2.2
@[irreducible] def w := z1.1.w
@[irreducible] def A := z1.1.A
@[irreducible] def ro := z1.1.ro
@[irreducible] def s := z1.1.s
@[irreducible] def Q := z1.1.Q
def G2 : {P : Nat → Addr → Heap → Addr → Addr → Heap → Heap → Heap → Heap → Heap → Heap → Heap → Nat → Nat → Heap → Nat → (List Turn) → Nat → Nat → Str → (List Addr) → (List Addr) → Nat → Nat → LAO → (Option Value) → (Option Value) → (Option Value) → Tok → Tok → Tok → Nat → Addr → Prop // (∀ ξ9 tu h2a kk D4 h4a h5a h6a h7a h8a h9a h5 tk n h6 tk6 done pos first ec ta ka n1 n2 ro' u1 u2 u3 t1 t2 t3 n3 aX, P ξ9 tu h2a kk D4 h4a h5a h6a h7a h8a h9a h5 tk n h6 tk6 done pos first ec ta ka n1 n2 ro' u1 u2 u3 t1 t2 t3 n3 aX) → R1 z1 aus cu a0 a1 a cuts cs tx w A ro s Q} := ⟨_, by
  intro hh more AL AA0 AO0 AA1 AO1 CA hx hcs ret hlen S B F X N lt T hd hu st
  refine fillK (w := aWorld 0) ?_; k_fill; intro _ _
  w_strict (
    refine fillK (w := w) ?_; k_fill; intro _ _
    k_fold
    k_steps)
  rename_i tu h2a l2 kk h3a l3 D4 h4a l4 h5a h6a h7a h8a h9a h5 F5 N5
  unfold Hold
  refine WhileGo.intro (dueJ a cuts more cs ro tu kk (fun y => List.lookup y [(Str.ofString "automata", Value.ref aus), (Str.ofString "cuts", Value.ref cu), (Str.ofString "has_more", Value.bool more), (Str.ofString "text", Value.str (textOf cs) tx)].reverse)) cs.length F5 (PyProof.Rows.News.perm N5 (news' := (tu, W.listOf #[] 0) :: (kk, W.listOf #[] 0) :: ro) (by walk_at "sublist")) ?hj ?turn
  case hj =>
    exact ⟨[], 0, 0, _, [], [], 0, 0, ro, none, none, none, _, _, _, rfl, Nat.le_refl _, Nat.le_refl _, rfl, rfl, Sub.refl _, fun p hp => Nat.ne_of_lt (l2 p hp), fun p hp => Nat.ne_of_lt (PySem.W.ktn_ltOf l3.2 p hp), .nil, .nil, rfl, Nat.le_refl _, by walk_at "same locals"⟩
  rintro n m₁ nw h6 tk6 F6 N6 ⟨done, pos, first, ec, ta, ka, n1, n2, ro', u1, u2, u3, t1, t2, t3, hn, hdl, hfp, hR, rfl, sub, off1, off2, hta, hka, hec, hel, rfl⟩
  k_fold
  clear F5 N5
  have hne : @Ne Nat tu kk := Nat.ne_of_lt l3.1
  clear h3a l2 l3 l4
  have htl := hta.length
  have hkl := hka.length
  have hkt := tokens_len (cs := cs) (ts := done)
  have AA0' := AA0.sub sub
  have AA1' := AA1.sub sub
  have CA' : CutsAt ro' cu cuts := by
    obtain ⟨c0, c1, x, y, z⟩ := CA
    exact ⟨c0, c1, x.sub sub, y.sub sub, z.sub sub⟩
  obtain ⟨n3, hal⟩ := AL.sub sub
  obtain ⟨aX, hAX, AAX, AOX⟩ : ∃ aX, [Value.ref a0, Value.ref a1][((beginsAt cs pos : Nat) : Int).toNat]? = some (Value.ref aX) ∧ AutoAt ro' aX (a.rows (beginsAt cs pos)) (a.tags (beginsAt cs pos)) ∧ AutoOk (a.rows (beginsAt cs pos)) (a.tags (beginsAt cs pos)) := by
    unfold beginsAt
    split
    · exact ⟨a1, rfl, AA1', AO1⟩
    · exact ⟨a0, rfl, AA0', AO0⟩
  have hbg : beginsAt cs pos ≤ 1 := by unfold beginsAt; split <;> lia
  rename_i ξ3 ξ4 ξ5 ξ6 ξ7 ξ8 ξ9
  clear ξ3 ξ4 ξ5 ξ6
  revert more AL AA0 AO0 AA1 AO1 CA hx hcs ret hlen S B X lt T hd hu st ξ7 ξ8 hn hdl hfp hR sub off1 off2 hta hka hec hel N6 F6 qk ek hne htl hkl hkt AA0' AA1' CA' hal hAX AAX AOX hbg
  apply (hh ξ9 tu h2a kk D4 h4a h5a h6a h7a h8a h9a h5 tk n h6 tk6 done pos first ec ta ka n1 n2 ro' u1 u2 u3 t1 t2 t3 n3 aX)⟩
def R2 (ξ : ((((((Nat × Addr) × Heap) × (Addr × Addr)) × ((Heap × Heap) × (Heap × Heap))) × (((Heap × Heap) × (Heap × Nat)) × ((Nat × Heap) × (Nat × (List Turn))))) × ((((Nat × Nat) × (Str × (List Addr))) × (((List Addr) × Nat) × (Nat × LAO))) × ((((Option Value) × (Option Value)) × ((Option Value) × Tok)) × ((Tok × Tok) × (Nat × Addr)))))) := fun tu kk h9a h6 done pos first ec ta ka n1 n2 t1 t2 t3 => G2.1 ξ.1.1.1.1.1.1 tu ξ.1.1.1.1.2 kk ξ.1.1.1.2.2 ξ.1.1.2.1.1 ξ.1.1.2.1.2 ξ.1.1.2.2.1 ξ.1.1.2.2.2 ξ.1.2.1.1.1 h9a ξ.1.2.1.2.1 ξ.1.2.1.2.2 ξ.1.2.2.1.1 h6 ξ.1.2.2.2.1 done pos first ec ta ka n1 n2 ξ.2.1.2.2.2 ξ.2.2.1.1.1 ξ.2.2.1.1.2 ξ.2.2.1.2.1 t1 t2 t3 ξ.2.2.2.2.1 ξ.2.2.2.2.2
def P2 (ξ : ((((((Nat × Addr) × Heap) × (Addr × Addr)) × ((Heap × Heap) × (Heap × Heap))) × (((Heap × Heap) × (Heap × Nat)) × ((Nat × Heap) × (Nat × (List Turn))))) × ((((Nat × Nat) × (Str × (List Addr))) × (((List Addr) × Nat) × (Nat × LAO))) × ((((Option Value) × (Option Value)) × ((Option Value) × Tok)) × ((Tok × Tok) × (Nat × Addr)))))) : Prop := R2 ξ ξ.1.1.1.1.1.2 ξ.1.1.1.2.1 ξ.1.2.1.1.2 ξ.1.2.2.1.2 ξ.1.2.2.2.2 ξ.2.1.1.1.1 ξ.2.1.1.1.2 ξ.2.1.1.2.1 ξ.2.1.1.2.2 ξ.2.1.2.1.1 ξ.2.1.2.1.2 ξ.2.1.2.2.1 ξ.2.2.1.2.2 ξ.2.2.2.1.1 ξ.2.2.2.1.2
@[irreducible] def z2 : ((((((Nat × Addr) × Heap) × (Addr × Addr)) × ((Heap × Heap) × (Heap × Heap))) × (((Heap × Heap) × (Heap × Nat)) × ((Nat × Heap) × (Nat × (List Turn))))) × ((((Nat × Nat) × (Str × (List Addr))) × (((List Addr) × Nat) × (Nat × LAO))) × ((((Option Value) × (Option Value)) × ((Option Value) × Tok)) × ((Tok × Tok) × (Nat × Addr))))) := ep P2 (by walk_at "ne")
@[irreducible] def tu := z2.1.1.1.1.1.2
@[irreducible] def kk := z2.1.1.1.2.1
@[irreducible] def h9a := z2.1.2.1.1.2
@[irreducible] def h6 := z2.1.2.2.1.2
@[irreducible] def done := z2.1.2.2.2.2
@[irreducible] def pos := z2.2.1.1.1.1
@[irreducible] def first := z2.2.1.1.1.2
@[irreducible] def ec := z2.2.1.1.2.1
@[irreducible] def ta := z2.2.1.1.2.2
@[irreducible] def ka := z2.2.1.2.1.1
@[irreducible] def n1 := z2.2.1.2.1.2
@[irreducible] def n2 := z2.2.1.2.2.1
@[irreducible] def t1 := z2.2.2.1.2.2
@[irreducible] def t2 := z2.2.2.2.1.1
@[irreducible] def t3 := z2.2.2.2.1.2
theorem m2 : R2 z2 tu kk h9a h6 done pos first ec ta ka n1 n2 t1 t2 t3 := by
  intro more AL AA0 AO0 AA1 AO1 CA hx hcs ret hlen S B X lt T hd hu st ξ7 ξ8 hn hdl hfp hR sub off1 off2 hta hka hec hel N6 F6 qk ek hne htl hkl hkt AA0' AA1' CA' hal hAX AAX AOX hbg
  refine fillK (w := aWorld 0) ?_; k_fill; intro _ _
  w_strict (
    k_with_none
    k_with "ifexp" => (refine Hold.of ?_)
    k_steps)
  rotate_left 1
  focus
    have hp0 : ¬ ((pos : Nat) : Int) < (textOf cs).length := by assumption
    rw [hlen] at hp0
    rename_i D9 h9 F9 N9 l9
    refine EndK.of F9 N9 ?_
    intro kF kN
    have e0 : dueD a cuts more cs (cs.length - done.length) pos first = [] := by
      cases hz : cs.length - done.length with
      | zero => rfl
      | succ z => unfold dueD; rw [if_neg (by lia)]
    rw [e0, List.append_nil] at hR
    refine ret D9 _ _ _ kF kN (fun p hp => .tail _ (.tail _ (.tail _ (sub p hp)))) ?_
    rw [← hR]
    exact ⟨tu, kk, ta, ka, t3, by rw [hec]; exact .head _, ⟨n1, .tail _ (.head _)⟩, hta.imp fun _ _ ⟨t1, t2, t3, x⟩ => ⟨t1, t2, t3, .tail _ (.tail _ (.tail _ x))⟩, ⟨n2, .tail _ (.tail _ (.head _))⟩, hka.imp fun _ _ ⟨t1, t2, x⟩ => ⟨t1, t2, .tail _ (.tail _ (.tail _ x))⟩⟩
  have hp8 : pos < cs.length := pos_lt (by assumption)
  unfold Hold
  refine wpAny_mono (Q := BegP cs pos h6 s) ?_ (fun v s' hbp => ?_) (fun _ _ h => h)
  focus
    w_strict (
      k_with_none
      k_steps)
    · exact ⟨_, _, by rw [begins_zero (cs := cs) (by assumption)]; rfl, rfl⟩
    · exact ⟨_, _, by rw [begins_of (b := true) hcs hp8 (by assumption) (by assumption)]; rfl, rfl⟩
    · exact ⟨_, _, by rw [begins_of (b := false) hcs hp8 (by assumption) (by assumption)]; rfl, rfl⟩
  obtain ⟨tb, tkb, rfl, rfl⟩ := hbp
  generalize hbb : beginsAt cs pos = bg at *
  w_strict (
    k_with_none
    k_steps)
  k_dflt (refine choice_two (k := 0) (by walk_at "xS") (by k_asm) (by k_asm) off1 off2 hne AAX AOX CA' hx hcs hp8 ?_)
  intro a2 h7 tk7 ro2 t12 t22 nb e' F7 N7 o12 o22 sub2 hch hnb hpe hel hv
  have hpk : (nb, (e' : Int)) = pickD a cuts cs pos := by unfold pickD; rw [hbb]; exact hch
  clear AA0 AO0 AA1 AO1 CA AA0' AA1' CA' AAX AOX hAX hch AL hal
  k_sweep
  w_strict k_steps
  all_goals first
    | exact absurd ((‹nb = 0› : nb = 0).symm.trans (‹nb = 1› : nb = 1)) (by decide)
    | exact absurd ((‹nb = 1› : nb = 1) ▸ (‹nb < 0› : nb < 0)) (by decide)
    | exact hnb.elim (fun h => absurd (h ▸ (by decide : (-1 : Int) < 0)) ‹¬ nb < 0›) (fun h => h.elim (fun h => absurd h ‹nb ≠ 0›) (fun h => absurd h ‹nb ≠ 1›))
    | skip
  · rename_i Dt h9a l9 h9b tk9a e0 tk9b h9c t9 k9 len9 Dk h9d lD h9e e1 h9f h9g F9 N9
    have e1' : nb ≠ 1 := e1
    refine due_close (ta := ta) (ka' := ka ++ [Dk]) (kv := ka.map Value.ref ++ [Value.ref Dk]) (first' := e') (ec' := ec) (D := Dt) (ro2 := (Dk, { cls := .type "tuple", data := .seq #[.str (Str.ofString "A") tk9b, .str (PySem.Txt.slice (textOf cs) (some (first : Int)) (some (e' : Int))) t9] }) :: (Dt, { cls := .type "tuple", data := .seq #[.int nb t12, .int pos t2, .int e' t22] }) :: ro2) (first := first) (nb := nb) (e' := e') F9 N9 hn hdl hp8 hR hpk hpe hel hfp (by rw [if_neg (fun h => e1' h.1)]) ((sub.trans sub2).cons.cons)
      (hta.imp fun _ _ ⟨a1, a2, a3, x⟩ => ⟨a1, a2, a3, .tail _ (.tail _ (sub2 _ x))⟩) (.tail _ (.head _)) (List.forall_mem_cons.mpr ⟨(by k_ne), List.forall_mem_cons.mpr ⟨(by k_ne), o12⟩⟩) (List.forall_mem_cons.mpr ⟨(by k_ne), List.forall_mem_cons.mpr ⟨(by k_ne), o22⟩⟩)
      (by rw [tokensD_snoc, if_pos e0]; exact (hka.imp fun _ _ ⟨a1, a2, x⟩ => ⟨a1, a2, .tail _ (.tail _ (sub2 _ x))⟩).snoc ⟨_, _, .head _⟩) (by rw [echoD_snoc, if_pos e0]; exact hec) (by lia) (by simp) (by walk_at "sublist") locA
  · rename_i Dt h9a l9 h9b tk9a e0 tk9b e2 h9c t9 k9 lenB t9b k9b lenC h9d e1 h9e h9f F9 N9
    have e1' : nb ≠ 1 := e1
    have e0' : nb ≠ 0 := e0
    have e2' : nb < 0 := e2
    have hpl : (ec ++ partOf cs first e').length ≤ 10 * e' := by
      have q := lenC.2
      have q2 := lenB
      have q3 : (ec ++ partOf cs first e').length ≤ ec.length + (PySem.Txt.slice (textOf cs) (some (first : Int)) (some (e' : Int))).length := q
      lia
    refine due_close (ta := ta) (ka' := ka) (first' := e') (ec' := ec ++ partOf cs first e') (D := Dt) (ro2 := (Dt, { cls := .type "tuple", data := .seq #[.int nb t12, .int pos t2, .int e' t22] }) :: ro2) (first := first) (nb := nb) (e' := e') F9 N9 hn hdl hp8 hR hpk hpe hel hfp (by rw [if_neg (fun h => e1' h.1)]) ((sub.trans sub2).cons)
      (hta.imp fun _ _ ⟨a1, a2, a3, x⟩ => ⟨a1, a2, a3, .tail _ (sub2 _ x)⟩) (.head _) (List.forall_mem_cons.mpr ⟨(by k_ne), o12⟩) (List.forall_mem_cons.mpr ⟨(by k_ne), o22⟩)
      (by rw [tokensD_snoc, if_neg e0', List.append_nil]; exact (hka.imp fun _ _ ⟨a1, a2, x⟩ => ⟨a1, a2, .tail _ (sub2 _ x)⟩)) (by rw [echoD_snoc, if_neg e0', if_pos (.inl e2'), hec]) hpl rfl (by walk_at "sublist") locB
  · rename_i Dt h9a l9 h9b tk9a e0 tk9b e2 em e1 h9e h9f F9 N9
    have e1' : nb = 1 := e1
    have e0' : nb ≠ 0 := e0
    have e2' : ¬ nb < 0 := e2
    refine due_close (ta := ta) (ka' := ka) (first' := first) (ec' := ec) (D := Dt) (ro2 := (Dt, { cls := .type "tuple", data := .seq #[.int nb t12, .int pos t2, .int e' t22] }) :: ro2) (first := first) (nb := nb) (e' := e') F9 N9 hn hdl hp8 hR hpk hpe hel hfp (by rw [if_pos ⟨e1', em⟩]) ((sub.trans sub2).cons)
      (hta.imp fun _ _ ⟨a1, a2, a3, x⟩ => ⟨a1, a2, a3, .tail _ (sub2 _ x)⟩) (.head _) (List.forall_mem_cons.mpr ⟨(by k_ne), o12⟩) (List.forall_mem_cons.mpr ⟨(by k_ne), o22⟩)
      (by rw [tokensD_snoc, if_neg e0', List.append_nil]; exact (hka.imp fun _ _ ⟨a1, a2, x⟩ => ⟨a1, a2, .tail _ (sub2 _ x)⟩)) (by rw [echoD_snoc, if_neg e0', if_neg (fun h => h.elim e2' (fun h => by rw [em] at h; cases h))]; exact hec) (by lia) rfl (by walk_at "sublist") locA
  · rename_i Dt h9a l9 h9b tk9a e0 tk9b e2 em h9c t9 k9 lenB t9b k9b lenC h9d e1 h9e h9f F9 N9
    have e1' : nb = 1 := e1
    have e0' : nb ≠ 0 := e0
    have e2' : ¬ nb < 0 := e2
    have hpl : (ec ++ partOf cs first e').length ≤ 10 * e' := by
      have q := lenC.2
      have q2 := lenB
      have q3 : (ec ++ partOf cs first e').length ≤ ec.length + (PySem.Txt.slice (textOf cs) (some (first : Int)) (some (e' : Int))).length := q
      lia
    refine due_close (ta := ta) (ka' := ka) (first' := e') (ec' := ec ++ partOf cs first e') (D := Dt) (ro2 := (Dt, { cls := .type "tuple", data := .seq #[.int nb t12, .int pos t2, .int e' t22] }) :: ro2) (first := first) (nb := nb) (e' := e') F9 N9 hn hdl hp8 hR hpk hpe hel hfp (by rw [if_neg (fun h => by have h2 := h.2; rw [em] at h2; cases h2)]) ((sub.trans sub2).cons)
      (hta.imp fun _ _ ⟨a1, a2, a3, x⟩ => ⟨a1, a2, a3, .tail _ (sub2 _ x)⟩) (.head _) (List.forall_mem_cons.mpr ⟨(by k_ne), o12⟩) (List.forall_mem_cons.mpr ⟨(by k_ne), o22⟩)
      (by rw [tokensD_snoc, if_neg e0', List.append_nil]; exact (hka.imp fun _ _ ⟨a1, a2, x⟩ => ⟨a1, a2, .tail _ (sub2 _ x)⟩)) (by rw [echoD_snoc, if_neg e0', if_pos (.inr em), hec]) hpl rfl (by walk_at "sublist") locB
theorem m1 : R1 z1 aus cu a0 a1 a cuts cs tx w A ro s Q := G2.2 (fun ξ9 tu h2a kk D4 h4a h5a h6a h7a h8a h9a h5 tk n h6 tk6 done pos first ec ta ka n1 n2 ro' u1 u2 u3 t1 t2 t3 n3 aX => @ep_go _ P2 _ _ (by with_unfolding_all exact m2) ((((((ξ9, tu), h2a), (kk, D4)), ((h4a, h5a), (h6a, h7a))), (((h8a, h9a), (h5, tk)), ((n, h6), (tk6, done)))), ((((pos, first), (ec, ta)), ((ka, n1), (n2, ro'))), (((u1, u2), (u3, t1)), ((t2, t3), (n3, aX))))) (by kernel_rfl))
end due_ok
end
theorem due_ok : due_ok.St := due_ok.G1.2 (fun aus cu a0 a1 a cuts cs tx w h₀ L A m ro s Q E dp un gd outer A₀ base loose mean mg mb g L' h₁ tk => @ep_go _ due_ok.P1 _ _ (by with_unfolding_all exact due_ok.m1) ((⟨m, ro, Q, E, s, A, L, h₀, 0, w, dp, un, gd, outer, A₀, base, loose, mean, mg, mb, g, L', h₁, tk⟩ : Cx), (((aus, cu), (a0, a1)), ((a, cuts), (cs, tx)))) (by kernel_rfl))
local macro_rules | `(tactic| walk_at "subscriptTail") => pure (κtC (κap `subscriptTail [κh_, κh_, κgr, κgi]) (κtA `item_L [κqa, κqm, κqd, κqd, (κi `rfl), κq0, κqu]))
theorem ord_cp {c : Nat} (h : c < 3) : ((cpOf c : Nat) : Int) = 10 ∧ (c : Int) = 0 ∨ ((cpOf c : Nat) : Int) = 97 ∧ (c : Int) = 1 ∨ ((cpOf c : Nat) : Int) = 98 ∧ (c : Int) = 2 := by
  obtain rfl | rfl | rfl : c = 0 ∨ c = 1 ∨ c = 2 := by lia
  · exact .inl ⟨rfl, rfl⟩
  · exact .inr (.inl ⟨rfl, rfl⟩)
  · exact .inr (.inr ⟨rfl, rfl⟩)
theorem text_ascii (cs : List Nat) : (textOf cs).cps.all (· < 128) = true := by
  simp only [textOf, Array.all_eq_true]
  intro i h
  simp [cpOf]
  split
  · decide
  · split <;> decide
theorem off1_mem {D : Addr} : ∀ {l : List (Addr × Obj)}, LCg.Off1 D l → ∀ p ∈ l, p.1 ≠ D
  | [], _, p, hp => nomatch hp
  | q :: r, h, p, hp => by
    rcases List.mem_cons.mp hp with rfl | hp
    · exact h.1
    · exact off1_mem h.2 p hp
def wordJ (ro : List (Addr × Obj)) (cs : List Nat) (i : Nat) (ys : List Value) (nw : List (Addr × Obj)) : Prop := nw = ro ∧ IntsAre ys ((cs.take i).map Int.ofNat)
local macro_rules | `(tactic| walk_at "call ref") => pure (κtB `of_core [(κsub `ClassesAt.sub), (κap `ord_cp [κqb])])
theorem word_ok {w : World} {k : Nat} {h₀ : Heap} {L : Addr} {A : Around} {m : Str → Option Value} {ro : List (Addr × Obj)} {s : Shared} {c : Addr} {cs : List Nat} {tx : Tok} {Q E : Value → Shared → Prop}
    (S : Sit w (k + 2) h₀ L A) (F : Fr h₀ L s.heap m) (N : News h₀ L s.heap ro) (C : ClassesAt w ro c) (hx : cs.length ≤ 8) (hcs : ∀ c ∈ cs, c < 3)
    (ret : ∀ a h' tk' vs n, Fr h₀ L h' m → News h₀ L h' ((a, W.listOf vs.toArray n) :: ro) → (∀ p ∈ ro, p.1 ≠ a) → IntsAre vs (cs.map Int.ofNat) → Q (.ref a) { s with heap := h', toks := tk' }) :
    wpAny (MD w) A (call (.ref 719) [.ref c, .str (textOf cs) tx]) Q E s := by
  have hlen : (textOf cs).cps.size = cs.length := by simp [textOf]
  have C' := C
  obtain ⟨dc, bl, nl, k1, k2, k3, t1, t2, t3, t4, u1, u2, u3, u4, v, n1, n2, n3, C1, C2, C3, C4⟩ := C'
  w_strict (
    refine fillK (w := w) ?_; k_fill; intro _ _
    k_dflt (refine enterC [(Str.ofString "self", _), (Str.ofString "text", _)] S F N (by k_is) (by k_is) (fun _ _ => BindsTo.of_eq rfl) (by rfl) (by decide +kernel) rfl rfl rfl ?_)
    clear S F N
    intro dp un gd outer A₀ base loose mean mg mb g L' h₁ tk cells S B F X N Y lt T hd hu st
    k_fold
    (try k_lt lt); k_cells Y; (try simp only [List.cons_append, List.nil_append] at N)
    k_steps)
  rename_i oc1 dc1
  unfold Hold
  k_dflt (refine CompAny.str rfl (by k_asm) (by k_asm) (text_ascii cs) (by lia) ?_)
  intro g'
  refine compRest_ind (wordJ ((L' + 1, oc1) :: ro) cs) ⟨rfl, by simpa using .nil⟩ ?turn ?fin
  case' turn =>
    rintro i ys nw v I oI C oC D m₂ h tk E' hi ⟨rfl, hys⟩ ⟨cp, u, hcp, rfl⟩ hC hx2 F N off ne
    k_fold
    obtain ⟨c1, hc1⟩ : ∃ c, cs[i]? = some c := ⟨_, List.getElem?_eq_getElem (by lia)⟩
    have hcp2 : (textOf cs).cps[i]? = some (cpOf c1) := by simp [textOf, hc1]
    obtain rfl : cp = cpOf c1 := by rw [hcp] at hcp2; exact Option.some.inj hcp2
    have hc3 := hcs c1 (List.mem_of_getElem? hc1)
    w_strict k_steps
    rename_i t6 h6 tk6 F6 N6
    refine LCg.CompEnd.intro F6 N6 _ (fun _ h => h) off trivial ⟨rfl, ?_⟩
    rw [List.take_add_one, hc1, List.map_append]
    exact IntsAre.append hys (.cons _ _ .nil)
  case' fin =>
    rintro ys nw ⟨rfl, hys⟩
    intro D5 h5 tk5 F5 N5 off5
    (try dsimp only)
    refine EndK.of F5 N5 ?_
    intro kF kN
    rw [hlen, List.take_length] at hys
    refine ret D5 _ _ ys _ kF (newsSk1 kN) ?_ hys
    exact off1_mem off5.2
/-- a Dfa object -/
inductive DfaAt (w : World) (ro : List (Addr × Obj)) (d : Addr) (rows tags : List (List Int)) : Prop
  | mk : ∀ (dd R T : Addr) (k1 k2 : Tok) (n : Nat), ((d, instObj 201 dd) ∈ ro) → ((dd, dictOf [en w (Str.ofString "rows") k1 (.ref R), en w (Str.ofString "tags") k2 (.ref T)] n) ∈ ro) → (RowsAt ro R rows) → (TagsAt ro T tags) → DfaAt w ro d rows tags
theorem DfaAt.sub {w : World} {r r' : List (Addr × Obj)} {d : Addr} {rows tags : List (List Int)} (x : DfaAt w r d rows tags) (s : ∀ p ∈ r, p ∈ r') : DfaAt w r' d rows tags := by
  obtain ⟨dd, R, T, k1, k2, n, a, b, e, f⟩ := x
  exact ⟨dd, R, T, k1, k2, n, s _ a, s _ b, e.sub s, f.sub s⟩
/-- the steps' numbers -/
theorem step_ok {w : World} {k : Nat} {h₀ : Heap} {L : Addr} {A : Around} {m : Str → Option Value} {ro : List (Addr × Obj)} {s : Shared} {d : Addr} {rows tags : List (List Int)} {st_ : Int} {c : Nat} {t1 t2 : Tok} {Q E : Value → Shared → Prop}
    (S : Sit w (k + 1) h₀ L A) (F : Fr h₀ L s.heap m) (N : News h₀ L s.heap ro) (D : DfaAt w ro d rows tags) (AO : AutoOk rows tags) (h0 : 0 ≤ st_) (h1 : st_ < rows.length) (hc : c < 3)
    (ret : ∀ t h' tk', Fr h₀ L h' m → News h₀ L h' ro → Q (.int (stepR rows st_ c) t) { s with heap := h', toks := tk' }) :
    wpAny (MD w) A (call (.ref 186) [.ref d, .int st_ t1, .int c t2]) Q E s := by
  obtain ⟨dd, R, T, k1, k2, n, D1, D2, ⟨rs, ⟨n1, hR⟩, hrs⟩, hT⟩ := D
  obtain ⟨row, hrow⟩ : ∃ row, rows[st_.toNat]? = some row := ⟨_, List.getElem?_eq_getElem (by lia)⟩
  have hr4 := AO.three
  have hr3 := AO.rows row (List.mem_of_getElem? hrow)
  obtain ⟨ra, hra, vs, ⟨n3, hvs⟩, hiv⟩ := hrs.at hrow
  obtain ⟨nx, hnx⟩ : ∃ nx, row[c]? = some nx := ⟨_, List.getElem?_eq_getElem (by lia)⟩
  obtain ⟨tn, hnv⟩ := IntsAre.get hiv _ _ hnx
  have hra' : (rs.map Value.ref)[st_.toNat]? = some (Value.ref ra) := by simp [hra]
  have e1 : stepR rows st_ c = nx := by simp [stepR, hrow, hnx]
  have hnv' : vs[(c : Int).toNat]? = some (Value.int nx tn) := by simpa using hnv
  have hvl : vs.length = 3 := by rw [hiv.length]; exact hr3.1
  rw [e1] at ret
  w_strict (
    refine fillK (w := w) ?_; k_fill; intro _ _
    k_dflt (refine enter [(Str.ofString "self", _), (Str.ofString "state", _), (Str.ofString "number", _)] S F N (by k_is) (by k_is) (fun _ _ => BindsTo.of_eq rfl) (locs rfl) rfl rfl rfl (by decide) ?_)
    clear S F N
    intro dp un gd outer A₀ base loose mean mg mb g L' h₁ tk S B F X N lt T hd hu st
    k_fold
    k_steps)
  · exfalso; have hq : st_ = -1 := by assumption
    lia
  (try dsimp only)
  refine EndK.of (by assumption) (by assumption) ?_
  intro kF kN
  exact ret _ _ _ kF kN
def endD (rows tags : List (List Int)) : List Nat → Int → Nat → List (Nat × List Int)
  | [], _, _ => []
  | c :: r, st, e => if stepR rows st c = -1 then [] else if tagR tags (stepR rows st c) = [] then endD rows tags r (stepR rows st c) (e + 1) else (e + 1, tagR tags (stepR rows st c)) :: endD rows tags r (stepR rows st c) (e + 1)
inductive EndAt (ro : List (Addr × Obj)) (a : Addr) (x : Nat × List Int) : Prop
  | mk : ∀ (T : Addr) (t : Tok), (TupAt ro a [.int x.1 t, .ref T]) → (TupIntsAt ro T x.2) → EndAt ro a x
theorem EndAt.sub {r r' : List (Addr × Obj)} {a : Addr} {x : Nat × List Int} (h : EndAt r a x) (s : Sub r r') : EndAt r' a x := let ⟨T, t, h1, h2⟩ := h; ⟨T, t, h1.sub s, h2.sub s⟩
inductive endJ (rows tags : List (List Int)) (cs : List Nat) (pos : Nat) (ro : List (Addr × Obj)) (fd : Addr) (base : Str → Option Value) (i : Nat) (m : Str → Option Value) (nw : List (Addr × Obj)) : Prop
  | mk : ∀ (st : Int) (ents : List (Nat × List Int)) (as : List Addr) (n : Nat) (ro' : List (Addr × Obj)) (u : Option Value) (t1 : Tok), (nw = (fd, W.listOf (as.map Value.ref).toArray n) :: ro') → (Sub ro ro') → ((∀ p ∈ ro', p.1 ≠ fd)) → (Each (EndAt ro') as ents) → (ents.length ≤ i) → (ents ++ endD rows tags (cs.drop (pos + i)) st (pos + i) = endD rows tags (cs.drop pos) 0 pos) → (0 ≤ st) → (st < rows.length) → (m = up (Str.ofString "end") u (up (Str.ofString "state") (some (.int st t1)) (up (Str.ofString "found") (some (.ref fd)) base))) → endJ rows tags cs pos ro fd base i m nw
local macro_rules | `(tactic| walk_at "call ref") => pure (κtB `step_ok [(κsub `DfaAt.sub), κqb, κqb, κqb, κqb])
theorem Each.rev {α : Type} {R : Addr → α → Prop} : ∀ {as : List Addr} {xs : List α}, Each R as xs → Each R as.reverse xs.reverse
  | _, _, .nil => .nil
  | _, _, .cons h t => by rw [List.reverse_cons, List.reverse_cons]; exact t.rev.snoc h
theorem end_dead {rows tags : List (List Int)} {cs : List Nat} {e c : Nat} {st : Int} (hc : cs[e]? = some c) (h : stepR rows st c = -1) : endD rows tags (cs.drop e) st e = [] := by
  rw [drop_get hc]; unfold endD; rw [if_pos h]
theorem end_none {rows tags : List (List Int)} {cs : List Nat} {e c : Nat} {st : Int} (hc : cs[e]? = some c) (h : stepR rows st c ≠ -1) (ht : tagR tags (stepR rows st c) = []) : endD rows tags (cs.drop e) st e = endD rows tags (cs.drop (e + 1)) (stepR rows st c) (e + 1) := by
  rw [drop_get hc]; conv => lhs; unfold endD
  rw [if_neg h, if_pos ht]
theorem end_some {rows tags : List (List Int)} {cs : List Nat} {e c : Nat} {st : Int} (hc : cs[e]? = some c) (h : stepR rows st c ≠ -1) (ht : tagR tags (stepR rows st c) ≠ []) : endD rows tags (cs.drop e) st e = (e + 1, tagR tags (stepR rows st c)) :: endD rows tags (cs.drop (e + 1)) (stepR rows st c) (e + 1) := by
  rw [drop_get hc]; conv => lhs; unfold endD
  rw [if_neg h, if_neg ht]
theorem step_in {rows tags : List (List Int)} {st : Int} {c : Nat} (o : AutoOk rows tags) (h0 : 0 ≤ st) (h1 : st < rows.length) (hc : c < 3) : -1 ≤ stepR rows st c ∧ stepR rows st c < rows.length := by
  obtain ⟨row, hrow⟩ : ∃ row, rows[st.toNat]? = some row := ⟨_, List.getElem?_eq_getElem (by lia)⟩
  have hr3 := o.rows row (List.mem_of_getElem? hrow)
  obtain ⟨nx, hnx⟩ : ∃ nx, row[c]? = some nx := ⟨_, List.getElem?_eq_getElem (by lia)⟩
  have e1 : stepR rows st c = nx := by simp [stepR, hrow, hnx]
  rw [e1]
  exact hr3.2 nx (List.mem_of_getElem? hnx)
noncomputable section
namespace endings_ok
def St : Prop := ∀ {w : World} {k : Nat} {h₀ : Heap} {L : Addr} {A : Around} {m : Str → Option Value} {ro : List (Addr × Obj)} {s : Shared} {d nl : Addr} {rows tags : List (List Int)} {cs : List Nat} {pos : Nat} {t1 : Tok} {ns : List Value} {nn : Nat} {Q E : Value → Shared → Prop} (S : Sit w (k + 2) h₀ L A) (F : Fr h₀ L s.heap m) (N : News h₀ L s.heap ro) (D : DfaAt w ro d rows tags) (AO : AutoOk rows tags) (hnl : (nl, W.listOf ns.toArray nn) ∈ ro) (hns : IntsAre ns (cs.map Int.ofNat)) (hcs : ∀ c ∈ cs, c < 3) (hx : cs.length ≤ 8) (hp : pos ≤ cs.length) (ret : ∀ a h' tk' ro' as, Fr h₀ L h' m → News h₀ L h' ro' → Sub ro ro' → (∀ p ∈ ro, p.1 ≠ a) → ListAt ro' a (as.map Value.ref) → Each (EndAt ro') as (endD rows tags (cs.drop pos) 0 pos).reverse → Q (.ref a) { s with heap := h', toks := tk' }),
    wpAny (MD w) A (call (.ref 213) [.ref d, .ref nl, .int pos t1]) Q E s
def G1 : {P : Addr → Addr → (List (List Int)) → (List (List Int)) → (List Nat) → Nat → Tok → (List Value) → Nat → Addr → Addr → Addr → Tok → Tok → Nat → World → Heap → Addr → Around → SOV → LAO → Shared → VSP → VSP → Nat → Nat → (Option (List Code)) → (List Env) → Around → Heap → (List Str) → EOV → SOV → SOV → Heap → Addr → Heap → Nat → Prop // (∀ d nl rows tags cs pos t1 ns nn dd R ξ1 k1 k2 n w h₀ L A m ro s Q E dp un gd outer A₀ base loose mean mg mb g L' h₁ tk, P d nl rows tags cs pos t1 ns nn dd R ξ1 k1 k2 n w h₀ L A m ro s Q E dp un gd outer A₀ base loose mean mg mb g L' h₁ tk) → St} := ⟨_, by
  intro hh w k h₀ L A m ro s d nl rows tags cs pos t1 ns nn Q E S F N D AO hnl hns hcs hx hp ret
  refine lessK S ?_
  clear S k; intro S
  have hnsl : ns.length = cs.length := by rw [hns.length, List.length_map]
  have D' := D
  obtain ⟨dd, R, T, k1, k2, n, D1, D2, hR, hT⟩ := D'
  refine fillK (w := w) ?_; k_fill; intro _ _
  k_dflt (refine enter [(Str.ofString "dfa", _), (Str.ofString "numbers", _), (Str.ofString "at", _), (Str.ofString "state", _)] S F N (by k_is) (by k_is) (fun _ X9 => binds_K X9 rfl (by k_is) rfl rfl rfl) (locs rfl) rfl rfl rfl (by decide) ?_)
  clear S F N
  intro dp un gd outer A₀ base loose mean mg mb g L' h₁ tk S B F X N lt T hd hu st
  rename_i ξ1 ξ2 ξ3
  clear ξ2 ξ3
  revert D AO hnl hns hcs hx hp ret hnsl D1 D2 hR hT S B F X N lt T hd hu st
  exact hh d nl rows tags cs pos t1 ns nn dd R ξ1 k1 k2 n w h₀ L A m ro s Q E dp un gd outer A₀ base loose mean mg mb g L' h₁ tk⟩
def R1 (ξ : Cx × ((((Addr × Addr) × ((List (List Int)) × (List (List Int)))) × (((List Nat) × Nat) × (Tok × (List Value)))) × (((Nat × Addr) × (Addr × Addr)) × ((Tok × Tok) × Nat)))) := fun d nl rows tags cs pos t1 ns n w ro tk => G1.1 d nl rows tags cs pos t1 ns ξ.2.2.1.1.1 ξ.2.2.1.1.2 ξ.2.2.1.2.1 ξ.2.2.1.2.2 ξ.2.2.2.1.1 ξ.2.2.2.1.2 n w ξ.1.h₀ ξ.1.L ξ.1.A ξ.1.m ro ξ.1.s ξ.1.Q ξ.1.E ξ.1.dp ξ.1.un ξ.1.gd ξ.1.outer ξ.1.A₀ ξ.1.base ξ.1.loose ξ.1.mean ξ.1.mg ξ.1.mb ξ.1.g ξ.1.L' ξ.1.h₁ tk
def P1 (ξ : Cx × ((((Addr × Addr) × ((List (List Int)) × (List (List Int)))) × (((List Nat) × Nat) × (Tok × (List Value)))) × (((Nat × Addr) × (Addr × Addr)) × ((Tok × Tok) × Nat)))) : Prop := R1 ξ ξ.2.1.1.1.1 ξ.2.1.1.1.2 ξ.2.1.1.2.1 ξ.2.1.1.2.2 ξ.2.1.2.1.1 ξ.2.1.2.1.2 ξ.2.1.2.2.1 ξ.2.1.2.2.2 ξ.2.2.2.2 ξ.1.w ξ.1.ro ξ.1.tk
@[irreducible] def z1 : Cx × ((((Addr × Addr) × ((List (List Int)) × (List (List Int)))) × (((List Nat) × Nat) × (Tok × (List Value)))) × (((Nat × Addr) × (Addr × Addr)) × ((Tok × Tok) × Nat))) := ep P1 (by walk_at "ne")
@[irreducible] def d := z1.2.1.1.1.1
@[irreducible] def nl := z1.2.1.1.1.2
@[irreducible] def rows := z1.2.1.1.2.1
@[irreducible] def tags := z1.2.1.1.2.2
@[irreducible] def cs := z1.2.1.2.1.1
@[irreducible] def pos := z1.2.1.2.1.2
@[irreducible] def t1 := z1.2.1.2.2.1
@[irreducible] def ns := z1.2.1.2.2.2
@[irreducible] def n := z1.2.2.2.2
@[irreducible] def w := z1.1.w
@[irreducible] def ro := z1.1.ro
@[irreducible] def tk := z1.1.tk
theorem m1 : R1 z1 d nl rows tags cs pos t1 ns n w ro tk := by
  intro D AO hnl hns hcs hx hp ret hnsl D1 D2 hR hT S B F X N lt T hd hu st
  w_strict (
    refine fillK (w := w) ?_; k_fill; intro _ _
    k_fold
    (try k_lt lt)
    k_steps)
  rename_i fd h2 l2 h3 h4 tk4 ta tb tc R4 F4 N4 e4
  unfold Hold
  have hrs : Builtin.Range.rangeSize (pos : Int) (ns.length : Int) 1 = ((cs.length - pos : Nat) : Int) := by rw [rangeSize_nat]; lia
  refine iterR (endJ rows tags cs pos ro fd (fun y => List.lookup y [(Str.ofString "dfa", Value.ref d), (Str.ofString "numbers", Value.ref nl), (Str.ofString "at", Value.int (↑pos) t1), (Str.ofString "state", Value.int 0 446)].reverse)) rfl R4 (small_one (by lia) (by lia) (by lia) (by lia)) hrs F4 N4 ?hj ?turn ?done
  case hj =>
    exact ⟨0, [], [], 0, ro, none, 446, rfl, Sub.refl _, fun p hp => Nat.ne_of_lt (l2 p hp), .nil, Nat.le_refl _, rfl, Int.le_refl _, by have := AO.two; lia, by walk_at "same locals"⟩
  case' turn =>
    rintro i tv m₁ nw I oI h tk hi ⟨st1, ents, as, n7, ro7, u7, t7, rfl, sub, off0, has, hel, hR7, hs0, hs1, rfl⟩ off7 F7 N7
    k_fold
    have D7 := D.sub sub
    have hal := has.length
    have hI : @Ne Nat I fd := Ne.symm (off7 _ (.head _))
    clear F4 N4
    obtain ⟨c, hc⟩ : ∃ c, cs[pos + i]? = some c := ⟨_, List.getElem?_eq_getElem (by lia)⟩
    have hc3 := hcs c (List.mem_of_getElem? hc)
    obtain ⟨tn, hnv⟩ := IntsAre.get hns (pos + i) (c : Int) (by rw [List.getElem?_map, hc]; rfl)
    have hnv2 : ns[((pos : Int) + (i : Int)).toNat]? = some (.int (c : Int) tn) := by rw [show ((pos : Int) + (i : Int)).toNat = pos + i by lia]; exact hnv
    have hnl7 := sub _ hnl
    have D17 := sub _ D1
    have D27 := sub _ D2
    w_strict k_steps
  case' done =>
    rintro m₁ nw h tk ⟨st1, ents, as, n7, ro7, u7, t7, rfl, sub, off0, has, hel, hR7, hs0, hs1, rfl⟩ F7 N7
    (try dsimp only)
    have hal := has.length
    clear F4 N4
    w_strict k_steps
  rotate_left 2
  focus
    have hnx : stepR rows st1 c ≠ -1 := by assumption
    have hb := step_in AO hs0 hs1 hc3
    obtain ⟨tg, htg⟩ : ∃ tg, tags[(stepR rows st1 c).toNat]? = some tg := ⟨_, List.getElem?_eq_getElem (by have := AO.same; lia)⟩
    obtain ⟨ts, ⟨n9, hT1⟩, hts⟩ := hT.sub sub
    obtain ⟨tda, htda, ws, hws, hwi⟩ := hts.at htg
    have hr4 := AO.three
    have htda' : (ts.map Value.ref)[(stepR rows st1 c).toNat]? = some (Value.ref tda) := by simp [htda]
    dsimp only [TupAt] at hws
    have htl : tg.length ≤ 2 := by rcases AO.tags tg (List.mem_of_getElem? htg) with rfl | rfl | rfl | rfl <;> decide
    have hwl : ws.length ≤ 2 := by have h1 := hwi.length; lia
    w_strict k_steps
    have e1 : tagR tags (stepR rows st1 c) = tg := by simp only [tagR, if_pos (show 0 ≤ stepR rows st1 c by lia), htg, Option.getD_some]
    · have hw0 : ws.isEmpty = true := by assumption
      have htn : tagR tags (stepR rows st1 c) = [] := by
        rw [e1]
        cases ws with
        | nil => cases hwi; rfl
        | cons a b => cases hw0
      refine TurnEnd.of ((fd, W.listOf (List.map Value.ref as).toArray n7) :: ro7) (by assumption) (by assumption) (fun _ h => h) off7 ⟨stepR rows st1 c, ents, as, n7, ro7, some (.int ((pos : Int) + (i : Int)) tv), _, rfl, sub, off0, has, by lia, ?_, by lia, by lia, by walk_at "same locals"⟩
      rw [← hR7, end_none hc hnx htn]
      rfl
    · have e1 : tagR tags (stepR rows st1 c) = tg := by simp only [tagR, if_pos (show 0 ≤ stepR rows st1 c by lia), htg, Option.getD_some]
      have hw0 : ws.isEmpty = false := by assumption
      have htn : tagR tags (stepR rows st1 c) ≠ [] := by
        rw [e1]
        intro e
        subst e
        cases hwi
        cases hw0
      rename_i D9 h9 l9 h10 F10 N10
      have ei : (((pos + i + 1 : Nat)) : Int) = (pos : Int) + (i : Int) + 1 := by lia
      refine TurnEnd.of ((fd, W.listOf (List.map Value.ref (as ++ [D9])).toArray (n7 + 1)) :: (D9, _) :: ro7) (by assumption) (by assumption) (by rw [List.map_append]; walk_at "sublist") (List.forall_mem_cons.mpr ⟨Ne.symm hI, List.forall_mem_cons.mpr ⟨(by k_ne), fun p hp => off7 p (.tail _ hp)⟩⟩)
        ⟨stepR rows st1 c, ents ++ [(pos + i + 1, tg)], as ++ [D9], n7 + 1, (D9, _) :: ro7, some (.int ((pos : Int) + (i : Int)) tv), _, rfl, sub.cons, List.forall_mem_cons.mpr ⟨(by k_ne), off0⟩, (has.imp fun _ _ x => x.sub (Sub.refl _).cons).snoc ⟨tda, _, by rw [ei]; exact .head _, ws, .tail _ hws, hwi⟩, by simp; lia, ?_, by lia, by lia, by walk_at "same locals"⟩
      rw [← hR7, end_some hc hnx htn, e1, List.append_assoc]
      rfl
  · dsimp only
    refine EndK.of (by assumption) (by assumption) ?_
    intro kF kN
    rw [show pos + (cs.length - pos) = cs.length by lia, List.drop_length] at hR7
    have hR8 : ents = endD rows tags (cs.drop pos) 0 pos := by rw [← hR7]; simp [endD]
    refine ret fd _ _ _ as.reverse kF kN sub.cons (fun p hp => Nat.ne_of_lt (l2 p hp)) ⟨n7, by rw [List.map_reverse]; exact .head _⟩ ?_
    rw [← hR8]
    exact (has.imp fun _ _ x => x.sub (Sub.refl _).cons).rev
  · dsimp only
    have hnx : stepR rows st1 c = -1 := by assumption
    refine EndK.of (by assumption) (by assumption) ?_
    intro kF kN
    rw [end_dead hc hnx, List.append_nil] at hR7
    refine ret fd _ _ _ as.reverse kF (PyProof.Rows.News.tail' kN) sub.cons (fun p hp => Nat.ne_of_lt (l2 p hp)) ⟨n7, by rw [List.map_reverse]; exact .head _⟩ ?_
    rw [← hR7]
    exact (has.imp fun _ _ x => x.sub (Sub.refl _).cons).rev
end endings_ok
end
theorem endings_ok : endings_ok.St := endings_ok.G1.2 (fun d nl rows tags cs pos t1 ns nn dd R ξ1 k1 k2 n w h₀ L A m ro s Q E dp un gd outer A₀ base loose mean mg mb g L' h₁ tk => @ep_go _ endings_ok.P1 _ _ (by with_unfolding_all exact endings_ok.m1) ((⟨m, ro, Q, E, s, A, L, h₀, 0, w, dp, un, gd, outer, A₀, base, loose, mean, mg, mb, g, L', h₁, tk⟩ : Cx), ((((d, nl), (rows, tags)), ((cs, pos), (t1, ns))), (((nn, dd), (R, ξ1)), ((k1, k2), n)))) (by kernel_rfl))
/-- a Cut object -/
inductive CutObj (w : World) (ro : List (Addr × Obj)) (c : Addr) (bh : Bool) (n : Int) : Prop
  | mk : ∀ (dc : Addr) (k1 k2 k3 k4 t1 t2 : Tok) (nn : Nat), ((c, instObj 230 dc) ∈ ro) → ((dc, dictOf [en w (Str.ofString "way") k1 (.str (wayOf bh) t1), en w (Str.ofString "length") k2 (.int n t2), en w (Str.ofString "front") k3 .none, en w (Str.ofString "back") k4 .none] nn) ∈ ro) → CutObj w ro c bh n
theorem CutObj.sub {w : World} {r r' : List (Addr × Obj)} {c : Addr} {bh : Bool} {n : Int} (x : CutObj w r c bh n) (s : Sub r r') : CutObj w r' c bh n := by
  obtain ⟨dc, k1, k2, k3, k4, t1, t2, nn, a, b⟩ := x
  exact ⟨dc, k1, k2, k3, k4, t1, t2, nn, s _ a, s _ b⟩
abbrev IK (w : World) := PySem.intKind PySem.Challenge.rw_qd0070_01.row.prog w
/-- a dict with int keys -/
inductive DAt (w : World) (ro : List (Addr × Obj)) (d : Addr) (kvs : List (Int × Value)) : Prop
  | mk : ∀ o, ((d, o) ∈ ro) → (o.IsDictOf (IK w) kvs) → ((d == sysModules) = false) → DAt w ro d kvs
theorem DAt.sub {w : World} {r r' : List (Addr × Obj)} {d : Addr} {kvs : List (Int × Value)} (x : DAt w r d kvs) (s : Sub r r') : DAt w r' d kvs := let ⟨o, a, b, c⟩ := x; ⟨o, s _ a, b, c⟩
/-- the cuts that are given: a rule without a cut has none -/
inductive GivenAt (w : World) (ro : List (Addr × Obj)) (gd : Addr) (cuts : Int → Bool × Int) : Prop
  | mk : ∀ kvs, (DAt w ro gd kvs) → (∀ i, (i = 0 ∨ i = 1) → (valueAt kvs i = none ∧ cuts i = (true, 0)) ∨ ∃ c, valueAt kvs i = some (.ref c) ∧ CutObj w ro c (cuts i).1 (cuts i).2) → GivenAt w ro gd cuts
theorem GivenAt.sub {w : World} {r r' : List (Addr × Obj)} {d : Addr} {cuts : Int → Bool × Int} (x : GivenAt w r d cuts) (s : Sub r r') : GivenAt w r' d cuts := by
  obtain ⟨kvs, a, b⟩ := x
  refine ⟨kvs, a.sub s, fun i hi => (b i hi).imp id fun ⟨c, e, f⟩ => ⟨c, e, f.sub s⟩⟩
structure TabA where
  cl : Addr
  nm : Addr
  he : Addr
  rl : Addr
  gv : Addr
  ends : Addr
  er : Addr
inductive TablesAt (w : World) (ro : List (Addr × Obj)) (tb : Addr) (a : TabA) : Prop
  | mk : ∀ (dt : Addr) (k1 k2 k3 k4 k5 k6 k7 k8 k9 : Tok) (n : Nat), ((tb, instObj 279 dt) ∈ ro) → ((dt, dictOf [en w (Str.ofString "classes") k1 (.ref a.cl), en w (Str.ofString "names") k2 (.ref a.nm), en w (Str.ofString "automata") k3 (.ref a.he), en w (Str.ofString "rules") k4 (.ref a.rl), en w (Str.ofString "cuts") k5 (.ref a.gv), en w (Str.ofString "ends") k6 (.ref a.ends), en w (Str.ofString "has_default") k7 (.bool true), en w (Str.ofString "end_rules") k8 (.ref a.er), en w (Str.ofString "has_reject") k9 (.bool false)] n) ∈ ro) → TablesAt w ro tb a
theorem TablesAt.sub {w : World} {r r' : List (Addr × Obj)} {tb : Addr} {a : TabA} (x : TablesAt w r tb a) (s : Sub r r') : TablesAt w r' tb a := by
  obtain ⟨dt, k1, k2, k3, k4, k5, k6, k7, k8, k9, n, x, y⟩ := x
  exact ⟨dt, k1, k2, k3, k4, k5, k6, k7, k8, k9, n, s _ x, s _ y⟩
section
variable {prog : Program} {w : World} {A : Around} {E : Value → Shared → Prop} {s : Shared} {h₀ : Heap} {L d : Addr} {news : List (Addr × Obj)} {o : Obj} {kvs : List (Int × Value)} {k : Int} {t : Tok} {v : Value}
theorem item_D {value slice : PySem.Expr} {Q : Value → Shared → Prop} (N : News h₀ L s.heap news) (hd : o.IsDictOf (PySem.intKind prog w) kvs) (hp : (d, o) ∈ news) (hl : valueAt kvs k = some v) (h : Q v { s with toks := s.toks + 1 })
    (hs : subscripted slice false (.ref d) (.int k t) = operate [.ref d, .int k t] (getItem (.ref d) (.int k t)) := by with_unfolding_all rfl) (hg : ∀ r, letTemporaryGo value (.ref d) r = pure () := by intro _; with_unfolding_all rfl) :
    wpAny (model prog w) A (subscriptTail value slice (.ref d) (.int k t)) Q E s := kda_item N hp hd (intKind_is _ _ _ _) hl h hs hg
theorem notin_D {Q : Value → Shared → Prop} (N : News h₀ L s.heap news) (hd : o.IsDictOf (PySem.intKind prog w) kvs) (hp : (d, o) ∈ news) (lo : (d == sysModules) = false) {u : Option Value} (hl : valueAt kvs k = u) (h : Q (.bool (!u.isSome)) { s with toks := s.toks + 1 }) :
    wpAny (model prog w) A (compareOp .NotIn (.int k t) (.ref d)) Q E s := wpAny_notIn_of (intKind_is _ _ _ _) lo (kda_dict N hp hd).mapOf (by rw [hl]; exact h)
end
local macro_rules | `(tactic| walk_at "subscriptTail") => pure (κtC (κap `subscriptTail [κh_, κh_, κgr, κgi]) (κtA `item_D [κqa, κqb, κqm, κqb, κq0, κqu, κqi]))
local macro_rules | `(tactic| walk_at "compareOp NotIn int ref") => pure (κpa [κtA `notin_D [κqa, κqb, κqm, κqb, κqb, κq0], (κtr [(κsmo [`Option.isSome_some, `Option.isSome_none, `Bool.not_true, `Bool.not_false] none)])])
theorem cutlen_ok {w : World} {k : Nat} {h₀ : Heap} {L : Addr} {A : Around} {m : Str → Option Value} {ro : List (Addr × Obj)} {s : Shared} {tb ml : Addr} {a : TabA} {cuts : Int → Bool × Int} {nb : Int} {t1 : Tok} {vs : List Value} {nn : Nat} {Q E : Value → Shared → Prop}
    (S : Sit w (k + 1) h₀ L A) (F : Fr h₀ L s.heap m) (N : News h₀ L s.heap ro) (TB : TablesAt w ro tb a) (GV : GivenAt w ro a.gv cuts) (hnb : nb = 0 ∨ nb = 1) (hml : (ml, W.listOf vs.toArray nn) ∈ ro) (hvl : vs.length ≤ 8)
    (ret : ∀ t h' tk', Fr h₀ L h' m → News h₀ L h' ro → Q (.int (bodyOf (cuts nb).1 (cuts nb).2 vs.length) t) { s with heap := h', toks := tk' }) :
    wpAny (MD w) A (call (.ref 304) [.ref tb, .int nb t1, .ref ml]) Q E s := by
  obtain ⟨dt, k1, k2, k3, k4, k5, k6, k7, k8, k9, n, T1, T2⟩ := TB
  obtain ⟨kvs, ⟨o, hgo, hgd, hgl⟩, hkv⟩ := GV
  rcases hkv nb hnb with ⟨hv, hc⟩ | ⟨c, hv, dc, j1, j2, j3, j4, u1, u2, nc, C1, C2⟩
  · rw [hc] at ret
    w_strict (
      refine fillK (w := w) ?_; k_fill; intro _ _
      k_dflt (refine enter [(Str.ofString "tables", _), (Str.ofString "rule_number", _), (Str.ofString "numbers", _)] S F N (by k_is) (by k_is) (fun _ _ => BindsTo.of_eq rfl) (locs rfl) rfl rfl rfl (by decide) ?_)
      clear S F N
      intro dp un gd outer A₀ base loose mean mg mb g L' h₁ tk S B F X N lt T hd hu st
      k_fold
      k_steps)
    refine EndK.of (by assumption) (by assumption) ?_
    intro kF kN
    have e : bodyOf (true, (0 : Int)).1 (true, (0 : Int)).2 vs.length = vs.length := by simp [bodyOf]
    rw [e] at ret
    exact ret _ _ _ kF kN
  · generalize hcu : cuts nb = cu at *
    obtain ⟨bh, cn⟩ := cu
    cases bh
    all_goals (
      simp only [wayOf, if_true, if_false, Bool.false_eq_true] at C2
      w_strict (
        refine fillK (w := w) ?_; k_fill; intro _ _
        k_dflt (refine enter [(Str.ofString "tables", _), (Str.ofString "rule_number", _), (Str.ofString "numbers", _)] S F N (by k_is) (by k_is) (fun _ _ => BindsTo.of_eq rfl) (locs rfl) rfl rfl rfl (by decide) ?_)
        clear S F N
        intro dp un gd outer A₀ base loose mean mg mb g L' h₁ tk S B F X N lt T hd hu st
        k_fold
        k_steps))
    all_goals (
      try dsimp only
      refine EndK.of (by assumption) (by assumption) ?_
      intro kF kN
      exact ret _ _ _ kF kN)
/-- the scanner's values -/
structure ScA where
  nm : Addr
  pl : Addr
  tu : Addr
  tb : Addr
  nl : Addr
/-- the scanner's dict -/
inductive ScObj (w : World) (o : Obj) (a : ScA) (cs : List Nat) (pos began : Nat) (count : Int) (ec : Str) (kept : Bool) : Prop
  | mk : ∀ (k1 k2 k3 k4 k5 k6 k7 k8 k9 k10 k11 k12 k13 k14 k15 t1 t2 t3 t4 t5 t6 t7 : Tok), (o = dictOf [en w (Str.ofString "text") k1 (.str (textOf cs) t1), en w (Str.ofString "names") k2 (.ref a.nm), en w (Str.ofString "has_default") k3 (.bool true), en w (Str.ofString "most") k4 (.int 2000 t2),
    en w (Str.ofString "at") k5 (.int pos t3), en w (Str.ofString "began") k6 (.int began t4), en w (Str.ofString "condition") k7 (.int 0 t5), en w (Str.ofString "pile") k8 (.ref a.pl), en w (Str.ofString "echoed") k9 (.str ec t6), en w (Str.ofString "count") k10 (.int count t7), en w (Str.ofString "turns") k11 (.ref a.tu),
    en w (Str.ofString "is_kept") k12 (.bool kept), en w (Str.ofString "is_ended") k13 (.bool false), en w (Str.ofString "tables") k14 (.ref a.tb), en w (Str.ofString "numbers") k15 (.ref a.nl)] 15) → ScObj w o a cs pos began count ec kept
theorem begins_ok {w : World} {k : Nat} {h₀ : Heap} {L : Addr} {A : Around} {m : Str → Option Value} {ro : List (Addr × Obj)} {s : Shared} {sc ds : Addr} {o : Obj} {a : ScA} {cs : List Nat} {pos p0 began : Nat} {count : Int} {ec : Str} {kept : Bool} {t1 : Tok} {Q E : Value → Shared → Prop}
    (S : Sit w (k + 1) h₀ L A) (F : Fr h₀ L s.heap m) (N : News h₀ L s.heap ro) (hsc : (sc, instObj 476 ds) ∈ ro) (hds : (ds, o) ∈ ro) (SO : ScObj w o a cs p0 began count ec kept) (hx : cs.length ≤ 8) (hcs : ∀ c ∈ cs, c < 3) (hp : pos < cs.length)
    (ret : ∀ t h' tk', Fr h₀ L h' m → News h₀ L h' ro → Q (.int (beginsAt cs pos : Nat) t) { s with heap := h', toks := tk' }) :
    wpAny (MD w) A (call (.ref 353) [.ref sc, .int pos t1]) Q E s := by
  have hlen : (textOf cs).length = cs.length := by simp [textOf, Str.length]
  obtain ⟨k1, k2, k3, k4, k5, k6, k7, k8, k9, k10, k11, k12, k13, k14, k15, u1, u2, u3, u4, u5, u6, u7, rfl⟩ := SO
  w_strict (
    refine fillK (w := w) ?_; k_fill; intro _ _
    k_dflt (refine enter [(Str.ofString "self", _), (Str.ofString "offset", _)] S F N (by k_is) (by k_is) (fun _ _ => BindsTo.of_eq rfl) (locs rfl) rfl rfl rfl (by decide) ?_)
    clear S F N
    intro dp un gd outer A₀ base loose mean mg mb g L' h₁ tk S B F X N lt T hd hu st
    k_fold
    k_steps)
  · have hb : beginsAt cs pos = 1 := begins_zero (by assumption)
    rw [hb] at ret
    (try dsimp only)
    refine EndK.of (by assumption) (by assumption) ?_
    intro kF kN
    exact ret _ _ _ kF kN
  · have hb : beginsAt cs pos = 1 := begins_of (b := true) hcs hp (by assumption) (by assumption)
    rw [hb] at ret
    (try dsimp only)
    refine EndK.of (by assumption) (by assumption) ?_
    intro kF kN
    exact ret _ _ _ kF kN
  · have hb : beginsAt cs pos = 0 := begins_of (b := false) hcs hp (by assumption) (by assumption)
    rw [hb] at ret
    (try dsimp only)
    refine EndK.of (by assumption) (by assumption) ?_
    intro kF kN
    exact ret _ _ _ kF kN
theorem yytext_ok {w : World} {k : Nat} {h₀ : Heap} {L : Addr} {A : Around} {m : Str → Option Value} {ro : List (Addr × Obj)} {s : Shared} {sc ds : Addr} {o : Obj} {a : ScA} {cs : List Nat} {pos began : Nat} {count : Int} {ec : Str} {kept : Bool} {Q E : Value → Shared → Prop}
    (S : Sit w (k + 1) h₀ L A) (F : Fr h₀ L s.heap m) (N : News h₀ L s.heap ro) (hsc : (sc, instObj 476 ds) ∈ ro) (hds : (ds, o) ∈ ro) (SO : ScObj w o a cs pos began count ec kept) (hx : cs.length ≤ 8) (hb : began ≤ pos) (hp : pos ≤ cs.length)
    (ret : ∀ t h' tk', Fr h₀ L h' m → News h₀ L h' ro → Q (.str (partOf cs began pos) t) { s with heap := h', toks := tk' }) :
    wpAny (MD w) A (call (.ref 360) [.ref sc]) Q E s := by
  have hlen : (textOf cs).length = cs.length := by simp [textOf, Str.length]
  obtain ⟨k1, k2, k3, k4, k5, k6, k7, k8, k9, k10, k11, k12, k13, k14, k15, u1, u2, u3, u4, u5, u6, u7, rfl⟩ := SO
  w_strict (
    refine fillK (w := w) ?_; k_fill; intro _ _
    k_dflt (refine enter [(Str.ofString "self", _)] S F N (by k_is) (by k_is) (fun _ _ => BindsTo.of_eq rfl) (locs rfl) rfl rfl rfl (by decide) ?_)
    clear S F N
    intro dp un gd outer A₀ base loose mean mg mb g L' h₁ tk S B F X N lt T hd hu st
    k_fold
    k_steps)
  (try dsimp only)
  refine EndK.of (by assumption) (by assumption) ?_
  intro kF kN
  exact ret _ _ _ kF kN
theorem pos_new {w : World} {k : Nat} {h₀ : Heap} {L : Addr} {A : Around} {m : Str → Option Value} {ro : List (Addr × Obj)} {s : Shared} {a b c : Int} {t1 t2 t3 : Tok} {Q E : Value → Shared → Prop}
    (S : Sit w (k + 2) h₀ L A) (F : Fr h₀ L s.heap m) (N : News h₀ L s.heap ro)
    (ret : ∀ x h' tk' ro', Fr h₀ L h' m → News h₀ L h' ro' → Sub ro ro' → Q (.ref x) { s with heap := h', toks := tk' }) :
    wpAny (MD w) A (call (.ref 45) [.int a t1, .int b t2, .int c t3]) Q E s := by
  w_strict (
    refine fillK (w := w) ?_; k_fill; intro _ _
    k_dflt (refine enterI (fun x => [(Str.ofString "self", x), (Str.ofString "offset", _), (Str.ofString "line", _), (Str.ofString "column", _)]) S F N (by k_is) (by k_is) (by k_is) (by k_is) (by k_is) (fun _ _ _ => BindsTo.of_eq rfl) (fun _ => locs rfl) rfl rfl rfl (by decide) ?_)
    clear S F N
    intro x dx dp un gd outer A₀ base loose mean mg mb g L' h₁ tk S B F X N lt l1 l2 T hd hu st
    k_fold
    (try k_lt l1); (try k_lt2 l2)
    k_steps)
  refine EndK.of (by assumption) (by assumption) ?_
  intro kF kN
  exact ⟨rfl, ret x _ _ _ kF kN (fun p hp => .tail _ (.tail _ hp))⟩
local macro_rules | `(tactic| walk_at "call ref") => pure (κtB `pos_new [])
inductive posJ (ro : List (Addr × Obj)) (pos : Nat) (base : Str → Option Value) (i : Nat) (m : Str → Option Value) (nw : List (Addr × Obj)) : Prop
  | mk : ∀ (li be : Int) (t1 t2 t3 : Tok) (u : Option Value), (nw = ro) → (0 ≤ li) → (li ≤ 1 + i) → (0 ≤ be) → (be ≤ i) → (m = up (Str.ofString "here") u (up (Str.ofString "begun") (some (.int be t1)) (up (Str.ofString "line") (some (.int li t2)) (up (Str.ofString "at") (some (.int pos t3)) base)))) → posJ ro pos base i m nw
noncomputable section
namespace posof_ok
def St : Prop := ∀ {w : World} {k : Nat} {h₀ : Heap} {L : Addr} {A : Around} {m : Str → Option Value} {ro : List (Addr × Obj)} {s : Shared} {cs : List Nat} {pos : Nat} {t1 tx : Tok} {Q E : Value → Shared → Prop} (S : Sit w (k + 3) h₀ L A) (F : Fr h₀ L s.heap m) (N : News h₀ L s.heap ro) (hx : cs.length ≤ 8) (hp : pos ≤ cs.length) (ret : ∀ a h' tk' ro', Fr h₀ L h' m → News h₀ L h' ro' → Sub ro ro' → Q (.ref a) { s with heap := h', toks := tk' }),
    wpAny (MD w) A (call (.ref 56) [.str (textOf cs) tx, .int pos t1]) Q E s
def G1 : {P : (List Nat) → Nat → Tok → Tok → World → Heap → Addr → Around → SOV → LAO → Shared → VSP → VSP → Nat → Nat → (Option (List Code)) → (List Env) → Around → Heap → (List Str) → EOV → SOV → SOV → Heap → Addr → Heap → Nat → Prop // (∀ cs pos t1 tx w h₀ L A m ro s Q E dp un gd outer A₀ base loose mean mg mb g L' h₁ tk, P cs pos t1 tx w h₀ L A m ro s Q E dp un gd outer A₀ base loose mean mg mb g L' h₁ tk) → St} := ⟨_, by
  intro hh w k h₀ L A m ro s cs pos t1 tx Q E S F N hx hp ret
  refine lessK S ?_
  clear S k; intro S
  have hlen : (textOf cs).length = cs.length := by simp [textOf, Str.length]
  refine fillK (w := w) ?_; k_fill; intro _ _
  k_dflt (refine enter [(Str.ofString "text", _), (Str.ofString "offset", _)] S F N (by k_is) (by k_is) (fun _ _ => BindsTo.of_eq rfl) (locs rfl) rfl rfl rfl (by decide) ?_)
  clear S F N
  intro dp un gd outer A₀ base loose mean mg mb g L' h₁ tk S B F X N lt T hd hu st
  rename_i ξ1 ξ2
  clear ξ1 ξ2
  revert hx hp ret hlen S B F X N lt T hd hu st
  exact hh cs pos t1 tx w h₀ L A m ro s Q E dp un gd outer A₀ base loose mean mg mb g L' h₁ tk⟩
def R1 (ξ : Cx × (((List Nat) × Nat) × (Tok × Tok))) := fun cs pos t1 tx w ro tk => G1.1 cs pos t1 tx w ξ.1.h₀ ξ.1.L ξ.1.A ξ.1.m ro ξ.1.s ξ.1.Q ξ.1.E ξ.1.dp ξ.1.un ξ.1.gd ξ.1.outer ξ.1.A₀ ξ.1.base ξ.1.loose ξ.1.mean ξ.1.mg ξ.1.mb ξ.1.g ξ.1.L' ξ.1.h₁ tk
def P1 (ξ : Cx × (((List Nat) × Nat) × (Tok × Tok))) : Prop := R1 ξ ξ.2.1.1 ξ.2.1.2 ξ.2.2.1 ξ.2.2.2 ξ.1.w ξ.1.ro ξ.1.tk
@[irreducible] def z1 : Cx × (((List Nat) × Nat) × (Tok × Tok)) := ep P1 (by walk_at "ne")
@[irreducible] def cs := z1.2.1.1
@[irreducible] def pos := z1.2.1.2
@[irreducible] def t1 := z1.2.2.1
@[irreducible] def tx := z1.2.2.2
@[irreducible] def w := z1.1.w
@[irreducible] def ro := z1.1.ro
@[irreducible] def tk := z1.1.tk
theorem m1 : R1 z1 cs pos t1 tx w ro tk := by
  intro hx hp ret hlen S B F X N lt T hd hu st
  w_strict (
    refine fillK (w := w) ?_; k_fill; intro _ _
    k_fold
    k_steps)
  rename_i h2 h3 h4 h5 tk5 ta tb tc R4 F4 N4 e4
  have c1 : ¬ ((0 : Int) > (pos : Int)) := by lia
  have c2 : ¬ (((textOf cs).length : Int) < (pos : Int)) := by rw [hlen]; lia
  simp only [if_neg c1, if_neg c2] at R4 F4
  unfold Hold
  have hrs : Builtin.Range.rangeSize 0 (pos : Int) 1 = ((pos : Nat) : Int) := by rw [rangeSize_nat]; lia
  refine iterR (posJ ro pos (fun y => List.lookup y [(Str.ofString "text", Value.str (textOf cs) tx), (Str.ofString "offset", Value.int (↑pos) t1)].reverse)) rfl R4 (small_one (by lia) (by lia) (by lia) (by lia)) hrs F4 N4 ?hj ?turn ?done
  case hj => exact ⟨1, 0, _, _, _, none, rfl, by decide, by decide, by decide, by decide, by walk_at "same locals"⟩
  case' turn =>
    rintro i tv m₁ nw I oI h tk hi ⟨li, be, u1, u2, u4, u3, rfl, l0, l1, b0, b1, rfl⟩ off7 F7 N7
    k_fold
    clear F4 N4
    w_strict k_steps
  case' done =>
    rintro m₁ nw h tk ⟨li, be, u1, u2, u4, u3, rfl, l0, l1, b0, b1, rfl⟩ F7 N7
    (try dsimp only)
    clear F4 N4
    w_strict k_steps
  · rename_i x9 h9 tk9 ro9 F9 N9 s9
    try dsimp only
    refine EndK.of (by assumption) (by assumption) ?_
    intro kF kN
    exact ret _ _ _ _ kF kN s9
  · refine TurnEnd.of ro (by assumption) (by assumption) (fun _ h => h) off7 ⟨li + 1, 0 + (i : Int) + 1, _, _, _, some (.int (0 + (i : Int)) tv), rfl, by lia, by lia, by lia, by lia, by walk_at "same locals"⟩
  · refine TurnEnd.of ro (by assumption) (by assumption) (fun _ h => h) off7 ⟨li, be, _, _, _, some (.int (0 + (i : Int)) tv), rfl, by lia, by lia, by lia, by lia, by walk_at "same locals"⟩
end posof_ok
end
theorem posof_ok : posof_ok.St := posof_ok.G1.2 (fun cs pos t1 tx w h₀ L A m ro s Q E dp un gd outer A₀ base loose mean mg mb g L' h₁ tk => @ep_go _ posof_ok.P1 _ _ (by with_unfolding_all exact posof_ok.m1) ((⟨m, ro, Q, E, s, A, L, h₀, 0, w, dp, un, gd, outer, A₀, base, loose, mean, mg, mb, g, L', h₁, tk⟩ : Cx), ((cs, pos), (t1, tx))) (by kernel_rfl))
section
variable {prog : Program} {w : World} {A : Around} {E : Value → Shared → Prop} {s : Shared} {h₀ : Heap} {L l : Addr} {m : Str → Option Value} {news : List (Addr × Obj)} {value slice : PySem.Expr} {vs : List Value} {n : Nat} {vl vu : Value} {x y : Int} {Q : Value → Shared → Prop}
theorem slice_two (F : Fr h₀ L s.heap m) (N : News h₀ L s.heap news) (hm : (l, W.listOf vs.toArray n) ∈ news) (pl : IsPart vl (some x)) (pu : IsPart vu (some y)) (h0 : 0 ≤ x) (h1 : x ≤ y) (h2 : y ≤ vs.length) (hz : vs.length ≤ 1000)
    (h : ∀ D ws h', Fr h₀ L h' m → News h₀ L h' ((D, W.listOf (List.toArray ws) 0) :: news) → (∀ p ∈ news, p.1 < D) → (ws.length : Int) = y - x → Q (.ref D) { s with heap := h' })
    (hs : subscripted slice false (.ref l) (.ref s.heap.objs.size) = operate [.ref s.heap.objs.size, .ref l] (getItem (.ref l) (.ref s.heap.objs.size))) (ht : ∀ r, letTemporaryGo value (.ref l) r = pure ()) :
    wpAny (model prog w) A (subscriptTail value slice (.ref l) (.ref s.heap.objs.size)) Q E { s with heap := s.heap.push { cls := .type "slice", data := .fields #[vl, vu, .none] } } := by
  refine kmk_slice F N (PySem.IsL.isList (n := n) (N _ hm).1) pl pu (fun D h' F' N' l1 => h D (slicePick vs.toArray (some x) (some y) none).toList h' F' (by rw [Array.toArray_toList]; exact N') l1 ?_) hs ht (by rw [List.size_toArray, PySem.sizeLine_eq]; lia)
  have ex : x = (x.toNat : Int) := by lia
  have ey : y = (y.toNat : Int) := by lia
  rw [ex, ey, slicePick_run vs.toArray x.toNat y.toNat (by simp; lia) (by lia)]
  simp
  lia
end
local macro_rules | `(tactic| walk_at "subscriptTail") => pure (κpa [κtC (κap `subscriptTail [κh_, (κap `PySem.Expr.Slice [(κap `some [κh_]), (κap `some [κh_]), (κi `none), κh_]), κgr, κgr]) (κtD `slice_two [κqa, κqa, κqm, κqp, κqp, κql, κql, κql, κql, κq0, κqu, κqe]), κins, (κrni [`l1, `hw]), κklt, κsw])
inductive HeldAt (w : World) (ro : List (Addr × Obj)) (he : Addr) (a : Autos) : Prop
  | mk : ∀ kvs d0 d1, (DAt w ro he kvs) → (valueAt kvs 0 = some (.ref d0)) → (valueAt kvs 1 = some (.ref d1)) → (DfaAt w ro d0 (a.rows 0) (a.tags 0)) → (DfaAt w ro d1 (a.rows 1) (a.tags 1)) → HeldAt w ro he a
theorem HeldAt.sub {w : World} {r r' : List (Addr × Obj)} {he : Addr} {a : Autos} (x : HeldAt w r he a) (s : Sub r r') : HeldAt w r' he a := by
  obtain ⟨kvs, d0, d1, x, y, z, u, v⟩ := x
  exact ⟨kvs, d0, d1, x.sub s, y, z, u.sub s, v.sub s⟩
theorem autom_ok {w : World} {k : Nat} {h₀ : Heap} {L : Addr} {A : Around} {m : Str → Option Value} {ro : List (Addr × Obj)} {s : Shared} {tb : Addr} {ta : TabA} {a : Autos} {cs : List Nat} {pos : Nat} {t1 t2 : Tok} {Q E : Value → Shared → Prop}
    (S : Sit w (k + 1) h₀ L A) (F : Fr h₀ L s.heap m) (N : News h₀ L s.heap ro) (TB : TablesAt w ro tb ta) (HE : HeldAt w ro ta.he a)
    (ret : ∀ d h' tk', Fr h₀ L h' m → News h₀ L h' ro → DfaAt w ro d (a.rows (beginsAt cs pos)) (a.tags (beginsAt cs pos)) → Q (.ref d) { s with heap := h', toks := tk' }) :
    wpAny (MD w) A (call (.ref 255) [.ref tb, .int 0 t1, .int (beginsAt cs pos : Nat) t2]) Q E s := by
  obtain ⟨dt, k1, k2, k3, k4, k5, k6, k7, k8, k9, n, T1, T2⟩ := TB
  obtain ⟨kvs, d0, d1, ⟨o, hgo, hgd, hgl⟩, v0, v1, D0, D1⟩ := HE
  obtain ⟨d, hv, hD⟩ : ∃ d, valueAt kvs (2 * 0 + ((beginsAt cs pos : Nat) : Int)) = some (.ref d) ∧ DfaAt w ro d (a.rows (beginsAt cs pos)) (a.tags (beginsAt cs pos)) := by
    unfold beginsAt
    split
    · exact ⟨d1, v1, D1⟩
    · exact ⟨d0, v0, D0⟩
  have hb : beginsAt cs pos ≤ 1 := by unfold beginsAt; split <;> lia
  generalize beginsAt cs pos = b at *
  w_strict (
    refine fillK (w := w) ?_; k_fill; intro _ _
    k_dflt (refine enter [(Str.ofString "self", _), (Str.ofString "condition", _), (Str.ofString "begins", _)] S F N (by k_is) (by k_is) (fun _ _ => BindsTo.of_eq rfl) (locs rfl) rfl rfl rfl (by decide) ?_)
    clear S F N
    intro dp un gd outer A₀ base loose mean mg mb g L' h₁ tk S B F X N lt T hd hu st
    k_fold
    k_steps)
  try dsimp only
  refine EndK.of (by assumption) (by assumption) ?_
  intro kF kN
  exact ret _ _ _ kF kN hD
theorem carve_news {h₀ h : Heap} {L d : Addr} {o : Obj} {r : List (Addr × Obj)} (N : News h₀ L h r) (hm : (d, o) ∈ r) : News h₀ L h ((d, o) :: carve d r) := fun p hp => by
  rcases List.mem_cons.mp hp with rfl | hp
  · exact N _ hm
  · exact N _ (carve_sub hp)
theorem tup_ne {h₀ h : Heap} {L a d : Addr} {xs ys : Array Value} {n n2 : Nat} {r : List (Addr × Obj)} (N : News h₀ L h r) (x : (a, ({ cls := .type "tuple", data := .seq xs n } : Obj)) ∈ r) (y : (d, W.listOf ys n2) ∈ r) : a ≠ d := fun e => by
  have := congrArg Obj.cls (same_obj N (e ▸ x : (d, _) ∈ r) y)
  simp at this
theorem endings_one {w : World} {k : Nat} {h₀ : Heap} {L : Addr} {A : Around} {m : Str → Option Value} {ro : List (Addr × Obj)} {s : Shared} {d nl rs : Addr} {rows tags : List (List Int)} {cs : List Nat} {pos : Nat} {t1 : Tok} {ns : List Value} {nn nr : Nat} {xs : Array Value} {Q E : Value → Shared → Prop}
    (S : Sit w (k + 2) h₀ L A) (F : Fr h₀ L s.heap m) (N : News h₀ L s.heap ((rs, W.listOf xs nr) :: ro)) (off : ∀ p ∈ ro, p.1 ≠ rs) (D : DfaAt w ro d rows tags) (AO : AutoOk rows tags) (hnl : (nl, W.listOf ns.toArray nn) ∈ ro) (hns : IntsAre ns (cs.map Int.ofNat)) (hcs : ∀ c ∈ cs, c < 3) (hx : cs.length ≤ 8) (hp : pos ≤ cs.length)
    (ret : ∀ a h' tk' ro' as, Fr h₀ L h' m → News h₀ L h' ((rs, W.listOf xs nr) :: ro') → (∀ p ∈ ro', p.1 ≠ rs) → Sub ro ro' → (∀ p ∈ ro, p.1 ≠ a) → ListAt ro' a (as.map Value.ref) → Each (EndAt ro') as (endD rows tags (cs.drop pos) 0 pos).reverse → Q (.ref a) { s with heap := h', toks := tk' }) :
    wpAny (MD w) A (call (.ref 213) [.ref d, .ref nl, .int pos t1]) Q E s := by
  refine endings_ok S F N (D.sub (Sub.refl _).cons) AO (.tail _ hnl) hns hcs hx hp fun a h' tk' r as F' N' sub fr la ea => ?_
  have hm := sub _ (.head _)
  have hne : a ≠ rs := Ne.symm (fr _ (.head _))
  refine ret a h' tk' (carve rs r) as F' (carve_news N' hm) carve_off (fun p hp => carve_mem (sub _ (.tail _ hp)) (off p hp)) (fun p hp => fr p (.tail _ hp)) (let ⟨n, hl⟩ := la; ⟨n, carve_mem hl hne⟩) (ea.imp fun b x ⟨T, t, h1, ws, h2, h3⟩ => ⟨T, t, carve_mem h1 (tup_ne N' h1 hm), ws, carve_mem h2 (tup_ne N' h2 hm), h3⟩)
def tryD (cuts : Int → Bool × Int) (pos : Nat) (e : Nat) : List Int → Option (Int × Int)
  | [] => none
  | n :: r => if 0 < bodyOf (cuts n).1 (cuts n).2 ((e : Int) - pos) ∧ bodyOf (cuts n).1 (cuts n).2 ((e : Int) - pos) ≤ (e : Int) - pos then some (n, (pos : Int) + bodyOf (cuts n).1 (cuts n).2 ((e : Int) - pos)) else tryD cuts pos e r
def candD (cuts : Int → Bool × Int) (pos : Nat) : List (Nat × List Int) → Option (Int × Int)
  | [] => none
  | x :: r => (tryD cuts pos x.1 x.2).or (candD cuts pos r)
theorem endD_in {rows tags : List (List Int)} (ht : ∀ t ∈ tags, ∀ x ∈ t, x = 0 ∨ x = 1) : ∀ {cs : List Nat} {st : Int} {e : Nat}, ∀ x ∈ endD rows tags cs st e, e < x.1 ∧ x.1 ≤ e + cs.length ∧ x.2.length ≤ x.2.length ∧ ∀ n ∈ x.2, n = 0 ∨ n = 1
  | [], st, e, x, hx => by simp [endD] at hx
  | c :: r, st, e, x, hx => by
    unfold endD at hx
    split at hx
    · cases hx
    · have rec_ : ∀ x ∈ endD rows tags r (stepR rows st c) (e + 1), e < x.1 ∧ x.1 ≤ e + (c :: r).length ∧ x.2.length ≤ x.2.length ∧ ∀ n ∈ x.2, n = 0 ∨ n = 1 := fun x hx => by
        have := endD_in ht x hx
        simp only [List.length_cons]
        exact ⟨by lia, by lia, this.2.2.1, this.2.2.2⟩
      split at hx
      · exact rec_ x hx
      · rcases List.mem_cons.mp hx with rfl | hx
        · refine ⟨by simp, by simp, Nat.le_refl _, ?_⟩
          intro n hn
          simp only [tagR] at hn
          split at hn
          · cases hq : tags[(stepR rows st c).toNat]? with
            | none => rw [hq] at hn; simp at hn
            | some t => rw [hq] at hn; exact ht t (List.mem_of_getElem? hq) n hn
          · cases hn
        · exact rec_ x hx
/-- the plain law of the choice: the last that fits is the first from behind -/
theorem fold_try {cuts : Int → Bool × Int} {pos e : Nat} : ∀ {tg : List Int} {fd : Int × Int}, tg.reverse.foldl (stepD cuts pos ((e : Int) - pos)) fd = (tryD cuts pos e tg).getD fd
  | [], fd => rfl
  | n :: r, fd => by
    rw [List.reverse_cons, List.foldl_append, fold_try]
    simp only [List.foldl_cons, List.foldl_nil, stepD, tryD]
    split <;> rfl
theorem choose_fold {rows tags : List (List Int)} {cuts : Int → Bool × Int} {pos : Nat} : ∀ {cs : List Nat} {st : Int} {e : Nat} {fd : Int × Int}, 0 ≤ st → pos ≤ e → (∀ c ∈ cs, c < 3) → (∀ st c, c < 3 → 0 ≤ st → -1 ≤ stepR rows st c) →
    chooseD rows tags cuts pos cs st ((e : Int) - pos) fd = (endD rows tags cs st e).foldl (fun fd x => (tryD cuts pos x.1 x.2).getD fd) fd
  | [], st, e, fd, _, _, _, _ => rfl
  | c :: r, st, e, fd, h0, hp, hc, hb => by
    have hb1 := hb st c (hc c (.head _)) h0
    unfold chooseD endD
    rw [if_neg (by lia)]
    have el : (e : Int) - pos + 1 = ((e + 1 : Nat) : Int) - pos := by lia
    by_cases hd : stepR rows st c = -1
    · rw [if_pos hd, hd]
      have : tagR tags (-1) = [] := by unfold tagR; rw [if_neg (by decide)]
      rw [this]
      simp only [List.reverse_nil, List.foldl_nil]
      match r with
      | [] => rfl
      | _ :: _ => unfold chooseD; rw [if_pos (by decide)]
    · rw [if_neg hd, el, choose_fold (by lia) (by lia) (fun c hc' => hc c (.tail _ hc')) hb]
      by_cases ht : tagR tags (stepR rows st c) = []
      · rw [if_pos ht, ht]
        rfl
      · rw [if_neg ht, List.foldl_cons, fold_try]
theorem fold_cand {cuts : Int → Bool × Int} {pos : Nat} : ∀ {l : List (Nat × List Int)} {fd : Int × Int}, l.reverse.foldl (fun fd x => (tryD cuts pos x.1 x.2).getD fd) fd = (candD cuts pos l).getD fd
  | [], fd => rfl
  | x :: r, fd => by
    rw [List.reverse_cons, List.foldl_append, fold_cand]
    simp only [List.foldl_cons, List.foldl_nil, candD]
    cases tryD cuts pos x.1 x.2 <;> rfl
theorem choose_cand {rows tags : List (List Int)} {cuts : Int → Bool × Int} {pos : Nat} {cs : List Nat} (o : AutoOk rows tags) (hcs : ∀ c ∈ cs, c < 3) :
    chooseD rows tags cuts pos (cs.drop pos) 0 0 (-1, (pos : Int) + 1) = (candD cuts pos (endD rows tags (cs.drop pos) 0 pos).reverse).getD (-1, (pos : Int) + 1) := by
  have hb : ∀ st c, c < 3 → 0 ≤ st → -1 ≤ stepR rows st c := by
    intro st c hc h0
    unfold stepR
    cases hr : rows[st.toNat]? with
    | none => simp
    | some row =>
      have hr3 := o.rows row (List.mem_of_getElem? hr)
      simp only [Option.bind_some]
      cases hn : row[c]? with
      | none => simp
      | some nx => exact (hr3.2 nx (List.mem_of_getElem? hn)).1
  have e0 : (0 : Int) = (pos : Int) - pos := by lia
  have := choose_fold (rows := rows) (tags := tags) (cuts := cuts) (pos := pos) (cs := cs.drop pos) (st := 0) (e := pos) (fd := (-1, (pos : Int) + 1)) (Int.le_refl _) (Nat.le_refl _) (fun c hc => hcs c (List.mem_of_mem_drop hc)) hb
  rw [← e0] at this
  rw [this, ← fold_cand, List.reverse_reverse]
/-- the rules with their steps -/
inductive StepObj (w : World) (ro : List (Addr × Obj)) (x : Addr) (word : Str) (worth : Value) : Prop
  | mk : ∀ (dx : Addr) (k1 k2 t : Tok) (n : Nat), ((x, instObj 763 dx) ∈ ro) → ((dx, dictOf [en w (Str.ofString "word") k1 (.str word t), en w (Str.ofString "worth") k2 worth] n) ∈ ro) → StepObj w ro x word worth
theorem StepObj.sub {w : World} {r r' : List (Addr × Obj)} {x : Addr} {a : Str} {v : Value} (h : StepObj w r x a v) (s : Sub r r') : StepObj w r' x a v := by
  obtain ⟨dx, k1, k2, t, n, p, q⟩ := h
  exact ⟨dx, k1, k2, t, n, s _ p, s _ q⟩
inductive RuleObj (w : World) (ro : List (Addr × Obj)) (x sl : Addr) : Prop
  | mk : ∀ (dx : Addr) (k1 k2 k3 k4 k5 : Tok) (v1 v2 v3 v5 : Value) (n : Nat), ((x, instObj 824 dx) ∈ ro) → ((dx, dictOf [en w (Str.ofString "number") k1 v1, en w (Str.ofString "conditions") k2 v2, en w (Str.ofString "pattern") k3 v3, en w (Str.ofString "steps") k4 (.ref sl), en w (Str.ofString "line") k5 v5] n) ∈ ro) → RuleObj w ro x sl
theorem RuleObj.sub {w : World} {r r' : List (Addr × Obj)} {x sl : Addr} (h : RuleObj w r x sl) (s : Sub r r') : RuleObj w r' x sl := by
  obtain ⟨dx, k1, k2, k3, k4, k5, v1, v2, v3, v5, n, p, q⟩ := h
  exact ⟨dx, k1, k2, k3, k4, k5, v1, v2, v3, v5, n, s _ p, s _ q⟩
def wordOf (more : Bool) : Str := if more = true then Str.ofString "more" else Str.ofString "echo"
inductive RulesAt (w : World) (ro : List (Addr × Obj)) (rl : Addr) (more : Bool) : Prop
  | mk : ∀ (r0 r1 s0 s1 x0 x1 : Addr) (t : Tok), (ListAt ro rl [.ref r0, .ref r1]) → (RuleObj w ro r0 s0) → (RuleObj w ro r1 s1) → (ListAt ro s0 [.ref x0]) → (ListAt ro s1 [.ref x1]) → (StepObj w ro x0 (Str.ofString "return") (.str (Str.ofString "A") t)) → (StepObj w ro x1 (wordOf more) .none) → RulesAt w ro rl more
theorem RulesAt.sub {w : World} {r r' : List (Addr × Obj)} {rl : Addr} {more : Bool} (h : RulesAt w r rl more) (s : Sub r r') : RulesAt w r' rl more := by
  obtain ⟨r0, r1, s0, s1, x0, x1, t, a, b, c, d, e, f, g⟩ := h
  exact ⟨r0, r1, s0, s1, x0, x1, t, a.sub s, b.sub s, c.sub s, d.sub s, e.sub s, f.sub s, g.sub s⟩
/-- what stands for the whole run: the scanner's object and the tables -/
structure Env0 where
  sc : Addr
  ds : Addr
  sa : ScA
  ta : TabA
  au : Autos
  cuts : Int → Bool × Int
  cs : List Nat
  more : Bool
structure RoAt (w : World) (ro : List (Addr × Obj)) (e : Env0) : Prop where
  sc : (e.sc, instObj 476 e.ds) ∈ ro
  tb : TablesAt w ro e.sa.tb e.ta
  he : HeldAt w ro e.ta.he e.au
  gv : GivenAt w ro e.ta.gv e.cuts
  rl : RulesAt w ro e.ta.rl e.more
  ends : DAt w ro e.ta.ends []
  nl : ∃ ns n, (e.sa.nl, W.listOf ns.toArray n) ∈ ro ∧ IntsAre ns (e.cs.map Int.ofNat)
theorem RoAt.sub {w : World} {r r' : List (Addr × Obj)} {e : Env0} (x : RoAt w r e) (s : Sub r r') : RoAt w r' e :=
  ⟨s _ x.sc, x.tb.sub s, x.he.sub s, x.gv.sub s, x.rl.sub s, x.ends.sub s, let ⟨ns, n, a, b⟩ := x.nl; ⟨ns, n, s _ a, b⟩⟩
structure EnvOk (e : Env0) : Prop where
  o0 : AutoOk (e.au.rows 0) (e.au.tags 0)
  o1 : AutoOk (e.au.rows 1) (e.au.tags 1)
  hx : e.cs.length ≤ 8
  hcs : ∀ c ∈ e.cs, c < 3
theorem EnvOk.ob {e : Env0} (x : EnvOk e) (pos : Nat) : AutoOk (e.au.rows (beginsAt e.cs pos)) (e.au.tags (beginsAt e.cs pos)) := by
  unfold beginsAt
  split
  · exact x.o1
  · exact x.o0
theorem try_hit {cuts : Int → Bool × Int} {pos e j : Nat} {tg : List Int} {n : Int} (h : tg[j]? = some n) (a : 0 < bodyOf (cuts n).1 (cuts n).2 ((e : Int) - pos)) (b : bodyOf (cuts n).1 (cuts n).2 ((e : Int) - pos) ≤ (e : Int) - pos) : tryD cuts pos e (tg.drop j) = some (n, (pos : Int) + bodyOf (cuts n).1 (cuts n).2 ((e : Int) - pos)) := by
  rw [drop_get h]; unfold tryD; rw [if_pos ⟨a, b⟩]
theorem try_miss {cuts : Int → Bool × Int} {pos e j : Nat} {tg : List Int} {n : Int} (h : tg[j]? = some n) (a : ¬ (0 < bodyOf (cuts n).1 (cuts n).2 ((e : Int) - pos) ∧ bodyOf (cuts n).1 (cuts n).2 ((e : Int) - pos) ≤ (e : Int) - pos)) : tryD cuts pos e (tg.drop j) = tryD cuts pos e (tg.drop (j + 1)) := by
  rw [drop_get h]; conv => lhs; unfold tryD
  rw [if_neg a]
theorem cand_next {cuts : Int → Bool × Int} {pos i : Nat} {l : List (Nat × List Int)} {x : Nat × List Int} (h : l[i]? = some x) : candD cuts pos (l.drop i) = (tryD cuts pos x.1 x.2).or (candD cuts pos (l.drop (i + 1))) := by
  rw [drop_get h]; rfl
def CandAt (ro : List (Addr × Obj)) (a : Addr) : Option (Int × Int) → Prop
  | none => ListAt ro a []
  | some x => ∃ (D : Addr) (t1 t2 : Tok), ListAt ro a [.ref D] ∧ TupAt ro D [.int x.2 t1, .int x.1 t2]
/-- the candidates due at a place -/
def candAt (e : Env0) (pos : Nat) : Option (Int × Int) := candD e.cuts pos (endD (e.au.rows (beginsAt e.cs pos)) (e.au.tags (beginsAt e.cs pos)) (e.cs.drop pos) 0 pos).reverse
/-- a Token object -/
inductive TokObj (w : World) (ro : List (Addr × Obj)) (x : Addr) (kind text : Str) : Prop
  | mk : ∀ (dx : Addr) (k1 k2 k3 k4 t1 t2 : Tok) (v1 v2 : Value) (n : Nat), ((x, instObj 140 dx) ∈ ro) → ((dx, dictOf [en w (Str.ofString "kind") k1 (.str kind t1), en w (Str.ofString "text") k2 (.str text t2), en w (Str.ofString "at") k3 v1, en w (Str.ofString "worth") k4 v2] n) ∈ ro) → TokObj w ro x kind text
theorem TokObj.sub {w : World} {r r' : List (Addr × Obj)} {x : Addr} {a b : Str} (h : TokObj w r x a b) (s : Sub r r') : TokObj w r' x a b := by
  obtain ⟨dx, k1, k2, k3, k4, t1, t2, v1, v2, n, p, q⟩ := h
  exact ⟨dx, k1, k2, k3, k4, t1, t2, v1, v2, n, s _ p, s _ q⟩
theorem tok_new {w : World} {k : Nat} {h₀ : Heap} {L : Addr} {A : Around} {m : Str → Option Value} {ro : List (Addr × Obj)} {s : Shared} {kind text : Str} {p : Addr} {t1 t2 : Tok} {Q E : Value → Shared → Prop}
    (S : Sit w (k + 2) h₀ L A) (F : Fr h₀ L s.heap m) (N : News h₀ L s.heap ro)
    (ret : ∀ x h' tk' ro', Fr h₀ L h' m → News h₀ L h' ro' → Sub ro ro' → (∀ p ∈ ro, p.1 ≠ x) → TokObj w ro' x kind text → Q (.ref x) { s with heap := h', toks := tk' }) :
    wpAny (MD w) A (call (.ref 140) [.str kind t1, .str text t2, .ref p]) Q E s := by
  w_strict (
    refine fillK (w := w) ?_; k_fill; intro _ _
    k_dflt (refine enterI (fun x => [(Str.ofString "self", x), (Str.ofString "kind", _), (Str.ofString "text", _), (Str.ofString "at", _), (Str.ofString "worth", _)]) S F N (by k_is) (by k_is) (by k_is) (by k_is) (by k_is) (fun _ _ X9 => binds_K X9 rfl (by k_is) rfl rfl rfl) (fun _ => locs rfl) rfl rfl rfl (by decide) ?_)
    clear S F N
    intro x dx dp un gd outer A₀ base loose mean mg mb g L' h₁ tk S B F X N lt l1 l2 T hd hu st
    k_fold
    have l1' := l1
    (try k_lt l1); (try k_lt2 l2)
    k_steps)
  refine EndK.of (by assumption) (by assumption) ?_
  intro kF kN
  have l2' : @LT.lt Nat _ dx x := l2
  exact ⟨rfl, ret x _ _ _ kF kN (fun p hp => .tail _ (.tail _ hp)) (fun p hp => Nat.ne_of_lt (Nat.lt_trans (l1' p hp) l2')) ⟨dx, _, _, _, _, _, _, _, _, _, .head _, .tail _ (.head _)⟩⟩
/-- the Reader's part of the scanner's dict -/
inductive RInit (w : World) (o : Obj) (cs : List Nat) (nm tu pl : Addr) : Prop
  | mk : ∀ (k1 k2 k3 k4 k5 k6 k7 k8 k9 k10 k11 k12 k13 t1 t2 t3 t4 t5 t6 t7 : Tok), (o = dictOf [en w (Str.ofString "text") k1 (.str (textOf cs) t1), en w (Str.ofString "names") k2 (.ref nm), en w (Str.ofString "has_default") k3 (.bool true), en w (Str.ofString "most") k4 (.int 2000 t2),
    en w (Str.ofString "at") k5 (.int 0 t3), en w (Str.ofString "began") k6 (.int 0 t4), en w (Str.ofString "condition") k7 (.int 0 t5), en w (Str.ofString "pile") k8 (.ref pl), en w (Str.ofString "echoed") k9 (.str (Str.ofString "") t6), en w (Str.ofString "count") k10 (.int 0 t7), en w (Str.ofString "turns") k11 (.ref tu),
    en w (Str.ofString "is_kept") k12 (.bool false), en w (Str.ofString "is_ended") k13 (.bool false)] 13) → RInit w o cs nm tu pl
noncomputable section
namespace rinit_ok
def St : Prop := ∀ {w : World} {k : Nat} {h₀ : Heap} {L : Addr} {A : Around} {m : Str → Option Value} {ro : List (Addr × Obj)} {s : Shared} {c dx nm : Addr} {cs : List Nat} {tx tm : Tok} {Q E : Value → Shared → Prop} (S : Sit w (k + 1) h₀ L A) (F : Fr h₀ L s.heap m) (N : News h₀ L s.heap ((c, instObj 476 dx) :: (dx, dictOf [] 0) :: ro)) (o1 : ∀ p ∈ ro, p.1 ≠ dx) (o2 : @Ne Nat c dx) (ret : ∀ tu pl h' tk' o, Fr h₀ L h' m → News h₀ L h' ((tu, W.listOf #[] 0) :: (pl, W.listOf #[] 0) :: (c, instObj 476 dx) :: (dx, o) :: ro) → RInit w o cs nm tu pl → @Ne Nat pl tu → @Ne Nat pl dx → @Ne Nat tu dx → (∀ p ∈ ro, p.1 ≠ pl) → (∀ p ∈ ro, p.1 ≠ tu) → Q .none { s with heap := h', toks := tk' }),
    wpAny (MD w) A (call (.ref 325) [.ref c, .str (textOf cs) tx, .ref nm, .bool true, .int 2000 tm]) Q E s
def G1 : {P : Addr → Addr → Addr → (List Nat) → Tok → Tok → World → Heap → Addr → Around → SOV → LAO → Shared → VSP → VSP → Nat → Nat → (Option (List Code)) → (List Env) → Around → Heap → (List Str) → EOV → SOV → SOV → Heap → Addr → Heap → Nat → Prop // (∀ c dx nm cs tx tm w h₀ L A m ro s Q E dp un gd outer A₀ base loose mean mg mb g L' h₁ tk, P c dx nm cs tx tm w h₀ L A m ro s Q E dp un gd outer A₀ base loose mean mg mb g L' h₁ tk) → St} := ⟨_, by
  intro hh w k h₀ L A m ro s c dx nm cs tx tm Q E S F N o1 o2 ret
  refine lessK S ?_
  clear S k; intro S
  refine fillK (w := w) ?_; k_fill; intro _ _
  k_dflt (refine enter [(Str.ofString "self", _), (Str.ofString "text", _), (Str.ofString "names", _), (Str.ofString "has_default", _), (Str.ofString "most", _)] S F N (by k_is) (by k_is) (fun _ _ => BindsTo.of_eq rfl) (locs rfl) rfl rfl rfl (by decide) ?_)
  clear S F N
  intro dp un gd outer A₀ base loose mean mg mb g L' h₁ tk S B F X N lt T hd hu st
  rename_i ξ1 ξ2
  clear ξ1 ξ2
  revert o1 o2 ret S B F X N lt T hd hu st
  exact hh c dx nm cs tx tm w h₀ L A m ro s Q E dp un gd outer A₀ base loose mean mg mb g L' h₁ tk⟩
def R1 (ξ : Cx × (((Addr × Addr) × Addr) × (((List Nat) × Tok) × Tok))) := fun w => G1.1 ξ.2.1.1.1 ξ.2.1.1.2 ξ.2.1.2 ξ.2.2.1.1 ξ.2.2.1.2 ξ.2.2.2 w ξ.1.h₀ ξ.1.L ξ.1.A ξ.1.m ξ.1.ro ξ.1.s ξ.1.Q ξ.1.E ξ.1.dp ξ.1.un ξ.1.gd ξ.1.outer ξ.1.A₀ ξ.1.base ξ.1.loose ξ.1.mean ξ.1.mg ξ.1.mb ξ.1.g ξ.1.L' ξ.1.h₁ ξ.1.tk
def P1 (ξ : Cx × (((Addr × Addr) × Addr) × (((List Nat) × Tok) × Tok))) : Prop := R1 ξ ξ.1.w
@[irreducible] def z1 : Cx × (((Addr × Addr) × Addr) × (((List Nat) × Tok) × Tok)) := ep P1 (by walk_at "ne")
@[irreducible] def w := z1.1.w
theorem m1 : R1 z1 w := by
  intro o1 o2 ret S B F X N lt T hd hu st
  w_strict (
    refine fillK (w := w) ?_; k_fill; intro _ _
    k_fold
    k_steps)
  rename_i pl h8 l8 h9 tk9 h10 h11 tu h12 l12 h13 h14 h15 F9 N9
  refine EndK.of (by assumption) (by assumption) ?_
  intro kF kN
  exact ret tu pl _ _ _ kF kN ⟨_, _, _, _, _, _, _, _, _, _, _, _, _, _, _, _, _, _, _, _, rfl⟩ ((by k_ne)) ((by k_ne)) ((by k_ne)) (PySem.W.tbn_neAll l8.2.2) (PySem.W.tbn_neAll l12.2.2.2)
end rinit_ok
end
theorem rinit_ok : rinit_ok.St := rinit_ok.G1.2 (fun c dx nm cs tx tm w h₀ L A m ro s Q E dp un gd outer A₀ base loose mean mg mb g L' h₁ tk => @ep_go _ rinit_ok.P1 _ _ (by with_unfolding_all exact rinit_ok.m1) ((⟨m, ro, Q, E, s, A, L, h₀, 0, w, dp, un, gd, outer, A₀, base, loose, mean, mg, mb, g, L', h₁, tk⟩ : Cx), (((c, dx), nm), ((cs, tx), tm))) (by kernel_rfl))
theorem tick_ok {w : World} {k : Nat} {h₀ : Heap} {L : Addr} {A : Around} {m : Str → Option Value} {ro : List (Addr × Obj)} {s : Shared} {sc ds : Addr} {o : Obj} {a : ScA} {cs : List Nat} {pos began : Nat} {count : Int} {ec : Str} {kept : Bool} {Q E : Value → Shared → Prop}
    (S : Sit w (k + 1) h₀ L A) (F : Fr h₀ L s.heap m) (N : News h₀ L s.heap ((ds, o) :: ro)) (off : ∀ p ∈ ro, p.1 ≠ ds) (hsc : (sc, instObj 476 ds) ∈ ro) (SO : ScObj w o a cs pos began count ec kept) (hc0 : 0 ≤ count) (hc : count ≤ 1000)
    (ret : ∀ o' h' tk', Fr h₀ L h' m → News h₀ L h' ((ds, o') :: ro) → ScObj w o' a cs pos began (count + 1) ec kept → Q .none { s with heap := h', toks := tk' }) :
    wpAny (MD w) A (call (.ref 374) [.ref sc]) Q E s := by
  obtain ⟨k1, k2, k3, k4, k5, k6, k7, k8, k9, k10, k11, k12, k13, k14, k15, u1, u2, u3, u4, u5, u6, u7, rfl⟩ := SO
  dsimp only [en] at N
  w_strict (
    refine fillK (w := w) ?_; k_fill; intro _ _
    k_dflt (refine enter [(Str.ofString "self", _)] S F N (by k_is) (by k_is) (fun _ _ => BindsTo.of_eq rfl) (locs rfl) rfl rfl rfl (by decide) ?_)
    clear S F N
    intro dp un gd outer A₀ base loose mean mg mb g L' h₁ tk S B F X N lt T hd hu st
    k_fold
    k_steps)
  refine EndK.of (by assumption) (by assumption) ?_
  intro kF kN
  exact ret _ _ _ kF kN ⟨_, _, _, _, _, _, _, _, _, _, _, _, _, _, _, _, _, _, _, _, _, _, rfl⟩
local macro_rules | `(tactic| walk_at "call ref") => pure (κtO [κpa [κtB `tick_ok [κqx, κqm, κqb, κqb, κqb], κtr [κwa "open so"]], κtB `yytext_ok [κqm, κqm, κqb, κqb, κql, κql], κtB `posof_ok [κqb, κql], κtB `tok_new []])
noncomputable section
namespace openm_ok
def St : Prop := ∀ {w : World} {k : Nat} {h₀ : Heap} {L : Addr} {A : Around} {m : Str → Option Value} {ro : List (Addr × Obj)} {s : Shared} {sc ds : Addr} {o : Obj} {a : ScA} {cs : List Nat} {pos began : Nat} {count : Int} {ec : Str} {kept : Bool} {Q E : Value → Shared → Prop} (S : Sit w (k + 2) h₀ L A) (F : Fr h₀ L s.heap m) (N : News h₀ L s.heap ((ds, o) :: ro)) (off : ∀ p ∈ ro, p.1 ≠ ds) (hsc : (sc, instObj 476 ds) ∈ ro) (SO : ScObj w o a cs pos began count ec kept) (hc0 : 0 ≤ count) (hc : count ≤ 1000) (ret : ∀ o' h' tk', Fr h₀ L h' m → News h₀ L h' ((ds, o') :: ro) → ScObj w o' a cs pos (if kept = true then began else pos) (count + 1) ec false → Q .none { s with heap := h', toks := tk' }),
    wpAny (MD w) A (call (.ref 402) [.ref sc]) Q E s
def G1 : {P : Addr → Addr → ScA → (List Nat) → Nat → Nat → Int → Str → Tok → Tok → Tok → Tok → Tok → Tok → Tok → Tok → Tok → Tok → Tok → Tok → Tok → Tok → Tok → Tok → Tok → Tok → Tok → Tok → Tok → Tok → World → Heap → Addr → Around → SOV → LAO → Shared → VSP → VSP → Nat → Nat → (Option (List Code)) → (List Env) → Around → Heap → (List Str) → EOV → SOV → SOV → Heap → Addr → Heap → Nat → Prop // (∀ sc ds a cs pos began count ec k1 k2 k3 k4 k5 k6 k7 k8 k9 k10 k11 k12 k13 k14 k15 u1 u2 u3 u4 u5 u6 u7 w h₀ L A m ro s Q E dp un gd outer A₀ base loose mean mg mb g L' h₁ tk, P sc ds a cs pos began count ec k1 k2 k3 k4 k5 k6 k7 k8 k9 k10 k11 k12 k13 k14 k15 u1 u2 u3 u4 u5 u6 u7 w h₀ L A m ro s Q E dp un gd outer A₀ base loose mean mg mb g L' h₁ tk) → St} := ⟨_, by
  intro hh w k h₀ L A m ro s sc ds o a cs pos began count ec kept Q E S F N off hsc SO hc0 hc ret
  refine lessK S ?_
  clear S k; intro S
  have SO' := SO
  obtain ⟨k1, k2, k3, k4, k5, k6, k7, k8, k9, k10, k11, k12, k13, k14, k15, u1, u2, u3, u4, u5, u6, u7, rfl⟩ := SO'
  refine fillK (w := w) ?_; k_fill; intro _ _
  k_dflt (refine enter [(Str.ofString "self", _)] S F N (by k_is) (by k_is) (fun _ _ => BindsTo.of_eq rfl) (locs rfl) rfl rfl rfl (by decide) ?_)
  clear S F N
  intro dp un gd outer A₀ base loose mean mg mb g L' h₁ tk S B F X N lt T hd hu st
  rename_i ξ1 ξ2
  clear ξ1 ξ2
  revert kept off hsc hc0 hc ret SO S B F X N lt T hd hu st
  apply (hh sc ds a cs pos began count ec k1 k2 k3 k4 k5 k6 k7 k8 k9 k10 k11 k12 k13 k14 k15 u1 u2 u3 u4 u5 u6 u7 w h₀ L A m ro s Q E dp un gd outer A₀ base loose mean mg mb g L' h₁ tk)⟩
def R1 (ξ : Cx × (((((Addr × Addr) × (ScA × (List Nat))) × ((Nat × Nat) × (Int × Str))) × (((Tok × Tok) × (Tok × Tok)) × ((Tok × Tok) × Tok))) × ((((Tok × Tok) × (Tok × Tok)) × ((Tok × Tok) × (Tok × Tok))) × (((Tok × Tok) × (Tok × Tok)) × ((Tok × Tok) × Tok))))) := fun k1 k2 k3 k4 k5 k6 k7 k8 k9 k10 k11 k12 k13 k14 k15 u1 u2 u3 u4 u5 u6 u7 w => G1.1 ξ.2.1.1.1.1.1 ξ.2.1.1.1.1.2 ξ.2.1.1.1.2.1 ξ.2.1.1.1.2.2 ξ.2.1.1.2.1.1 ξ.2.1.1.2.1.2 ξ.2.1.1.2.2.1 ξ.2.1.1.2.2.2 k1 k2 k3 k4 k5 k6 k7 k8 k9 k10 k11 k12 k13 k14 k15 u1 u2 u3 u4 u5 u6 u7 w ξ.1.h₀ ξ.1.L ξ.1.A ξ.1.m ξ.1.ro ξ.1.s ξ.1.Q ξ.1.E ξ.1.dp ξ.1.un ξ.1.gd ξ.1.outer ξ.1.A₀ ξ.1.base ξ.1.loose ξ.1.mean ξ.1.mg ξ.1.mb ξ.1.g ξ.1.L' ξ.1.h₁ ξ.1.tk
def P1 (ξ : Cx × (((((Addr × Addr) × (ScA × (List Nat))) × ((Nat × Nat) × (Int × Str))) × (((Tok × Tok) × (Tok × Tok)) × ((Tok × Tok) × Tok))) × ((((Tok × Tok) × (Tok × Tok)) × ((Tok × Tok) × (Tok × Tok))) × (((Tok × Tok) × (Tok × Tok)) × ((Tok × Tok) × Tok))))) : Prop := R1 ξ ξ.2.1.2.1.1.1 ξ.2.1.2.1.1.2 ξ.2.1.2.1.2.1 ξ.2.1.2.1.2.2 ξ.2.1.2.2.1.1 ξ.2.1.2.2.1.2 ξ.2.1.2.2.2 ξ.2.2.1.1.1.1 ξ.2.2.1.1.1.2 ξ.2.2.1.1.2.1 ξ.2.2.1.1.2.2 ξ.2.2.1.2.1.1 ξ.2.2.1.2.1.2 ξ.2.2.1.2.2.1 ξ.2.2.1.2.2.2 ξ.2.2.2.1.1.1 ξ.2.2.2.1.1.2 ξ.2.2.2.1.2.1 ξ.2.2.2.1.2.2 ξ.2.2.2.2.1.1 ξ.2.2.2.2.1.2 ξ.2.2.2.2.2 ξ.1.w
@[irreducible] def z1 : Cx × (((((Addr × Addr) × (ScA × (List Nat))) × ((Nat × Nat) × (Int × Str))) × (((Tok × Tok) × (Tok × Tok)) × ((Tok × Tok) × Tok))) × ((((Tok × Tok) × (Tok × Tok)) × ((Tok × Tok) × (Tok × Tok))) × (((Tok × Tok) × (Tok × Tok)) × ((Tok × Tok) × Tok)))) := ep P1 (by walk_at "ne")
@[irreducible] def k1 := z1.2.1.2.1.1.1
@[irreducible] def k2 := z1.2.1.2.1.1.2
@[irreducible] def k3 := z1.2.1.2.1.2.1
@[irreducible] def k4 := z1.2.1.2.1.2.2
@[irreducible] def k5 := z1.2.1.2.2.1.1
@[irreducible] def k6 := z1.2.1.2.2.1.2
@[irreducible] def k7 := z1.2.1.2.2.2
@[irreducible] def k8 := z1.2.2.1.1.1.1
@[irreducible] def k9 := z1.2.2.1.1.1.2
@[irreducible] def k10 := z1.2.2.1.1.2.1
@[irreducible] def k11 := z1.2.2.1.1.2.2
@[irreducible] def k12 := z1.2.2.1.2.1.1
@[irreducible] def k13 := z1.2.2.1.2.1.2
@[irreducible] def k14 := z1.2.2.1.2.2.1
@[irreducible] def k15 := z1.2.2.1.2.2.2
@[irreducible] def u1 := z1.2.2.2.1.1.1
@[irreducible] def u2 := z1.2.2.2.1.1.2
@[irreducible] def u3 := z1.2.2.2.1.2.1
@[irreducible] def u4 := z1.2.2.2.1.2.2
@[irreducible] def u5 := z1.2.2.2.2.1.1
@[irreducible] def u6 := z1.2.2.2.2.1.2
@[irreducible] def u7 := z1.2.2.2.2.2
@[irreducible] def w := z1.1.w
theorem m1 : R1 z1 k1 k2 k3 k4 k5 k6 k7 k8 k9 k10 k11 k12 k13 k14 k15 u1 u2 u3 u4 u5 u6 u7 w := by
  intro kept off hsc hc0 hc ret SO S B F X N lt T hd hu st
  w_strict (
    refine fillK (w := w) ?_; k_fill; intro _ _
    k_fold
    k_steps)
  rename_i o2 h2 tk2 F2 N2 SO2
  obtain ⟨k1, k2, k3, k4, k5, k6, k7, k8, k9, k10, k11, k12, k13, k14, k15, u1, u2, u3, u4, u5, u6, u7, rfl⟩ := SO2
  dsimp only [en] at N2
  cases kept
  all_goals w_strict k_steps
  all_goals (
    try dsimp only
    refine EndK.of (by assumption) (by assumption) ?_
    intro kF kN
    exact ret _ _ _ kF kN ⟨_, _, _, _, _, _, _, _, _, _, _, _, _, _, _, _, _, _, _, _, _, _, rfl⟩)
end openm_ok
end
theorem openm_ok : openm_ok.St := openm_ok.G1.2 (fun sc ds a cs pos began count ec k1 k2 k3 k4 k5 k6 k7 k8 k9 k10 k11 k12 k13 k14 k15 u1 u2 u3 u4 u5 u6 u7 w h₀ L A m ro s Q E dp un gd outer A₀ base loose mean mg mb g L' h₁ tk => @ep_go _ openm_ok.P1 _ _ (by with_unfolding_all exact openm_ok.m1) ((⟨m, ro, Q, E, s, A, L, h₀, 0, w, dp, un, gd, outer, A₀, base, loose, mean, mg, mb, g, L', h₁, tk⟩ : Cx), (((((sc, ds), (a, cs)), ((pos, began), (count, ec))), (((k1, k2), (k3, k4)), ((k5, k6), k7))), ((((k8, k9), (k10, k11)), ((k12, k13), (k14, k15))), (((u1, u2), (u3, u4)), ((u5, u6), u7))))) (by kernel_rfl))
theorem token_ok {w : World} {k : Nat} {h₀ : Heap} {L : Addr} {A : Around} {m : Str → Option Value} {ro : List (Addr × Obj)} {s : Shared} {sc ds : Addr} {o : Obj} {a : ScA} {cs : List Nat} {pos began : Nat} {count : Int} {ec : Str} {kept : Bool} {kind : Str} {t1 : Tok} {Q E : Value → Shared → Prop}
    (S : Sit w (k + 4) h₀ L A) (F : Fr h₀ L s.heap m) (N : News h₀ L s.heap ro) (hsc : (sc, instObj 476 ds) ∈ ro) (hds : (ds, o) ∈ ro) (SO : ScObj w o a cs pos began count ec kept) (hx : cs.length ≤ 8) (hb : began ≤ pos) (hp : pos ≤ cs.length)
    (ret : ∀ x h' tk' ro', Fr h₀ L h' m → News h₀ L h' ro' → Sub ro ro' → (∀ p ∈ ro, p.1 ≠ x) → TokObj w ro' x kind (partOf cs began pos) → Q (.ref x) { s with heap := h', toks := tk' }) :
    wpAny (MD w) A (call (.ref 367) [.ref sc, .str kind t1]) Q E s := by
  have SO' := SO
  obtain ⟨k1, k2, k3, k4, k5, k6, k7, k8, k9, k10, k11, k12, k13, k14, k15, u1, u2, u3, u4, u5, u6, u7, rfl⟩ := SO'
  w_strict (
    refine fillK (w := w) ?_; k_fill; intro _ _
    k_dflt (refine enter [(Str.ofString "self", _), (Str.ofString "kind", _)] S F N (by k_is) (by k_is) (fun _ _ => BindsTo.of_eq rfl) (locs rfl) rfl rfl rfl (by decide) ?_)
    clear S F N
    intro dp un gd outer A₀ base loose mean mg mb g L' h₁ tk S B F X N lt T hd hu st
    k_fold
    k_steps)
  rename_i t8 h8 tk8 a8 h9 tk9 ro8 sb8 x9 h10 tk10 ro9 F9 N9 sb9 fr9 TO9
  try dsimp only
  refine EndK.of (by assumption) (by assumption) ?_
  intro kF kN
  exact ret x9 _ _ ro9 kF kN (sb8.trans sb9) (fun p hp => fr9 p (sb8 p hp)) TO9
theorem tsteps_ok {w : World} {k : Nat} {h₀ : Heap} {L : Addr} {A : Around} {m : Str → Option Value} {ro : List (Addr × Obj)} {s : Shared} {tb sl r : Addr} {ta : TabA} {nb : Int} {rs : List Value} {nn : Nat} {t1 : Tok} {Q E : Value → Shared → Prop}
    (S : Sit w (k + 1) h₀ L A) (F : Fr h₀ L s.heap m) (N : News h₀ L s.heap ro) (TB : TablesAt w ro tb ta) (hrl : (ta.rl, W.listOf rs.toArray nn) ∈ ro) (hnb : nb = 0 ∨ nb = 1) (hr : rs[nb.toNat]? = some (.ref r)) (RO : RuleObj w ro r sl)
    (ret : ∀ h' tk', Fr h₀ L h' m → News h₀ L h' ro → Q (.ref sl) { s with heap := h', toks := tk' }) :
    wpAny (MD w) A (call (.ref 262) [.ref tb, .int nb t1]) Q E s := by
  obtain ⟨dt, j1, j2, j3, j4, j5, j6, j7, j8, j9, n, T1, T2⟩ := TB
  obtain ⟨dr, i1, i2, i3, i4, i5, v1, v2, v3, v5, nr, R1, R2⟩ := RO
  w_strict (
    refine fillK (w := w) ?_; k_fill; intro _ _
    k_dflt (refine enter [(Str.ofString "self", _), (Str.ofString "number", _)] S F N (by k_is) (by k_is) (fun _ _ => BindsTo.of_eq rfl) (locs rfl) rfl rfl rfl (by decide) ?_)
    clear S F N
    intro dp un gd outer A₀ base loose mean mg mb g L' h₁ tk S B F X N lt T hd hu st
    k_fold
    k_steps)
  try dsimp only
  refine EndK.of (by assumption) (by assumption) ?_
  intro kF kN
  exact ret _ _ kF kN
local macro_rules | `(tactic| walk_at "call ref") => pure (κtB `tsteps_ok [κqb, κqm, κqb, κqb, κqb])
theorem steps_ok {w : World} {k : Nat} {h₀ : Heap} {L : Addr} {A : Around} {m : Str → Option Value} {ro : List (Addr × Obj)} {s : Shared} {sc ds sl r : Addr} {sa : ScA} {ta : TabA} {cs : List Nat} {o : Obj} {pos began : Nat} {count : Int} {ec : Str} {kept : Bool} {nb : Int} {rs : List Value} {nn : Nat} {t1 : Tok} {Q E : Value → Shared → Prop}
    (S : Sit w (k + 2) h₀ L A) (F : Fr h₀ L s.heap m) (N : News h₀ L s.heap ro) (hsc : (sc, instObj 476 ds) ∈ ro) (hds : (ds, o) ∈ ro) (SO : ScObj w o sa cs pos began count ec kept) (TB : TablesAt w ro sa.tb ta) (hrl : (ta.rl, W.listOf rs.toArray nn) ∈ ro) (hnb : nb = 0 ∨ nb = 1) (hr : rs[nb.toNat]? = some (.ref r)) (RO : RuleObj w ro r sl)
    (ret : ∀ h' tk', Fr h₀ L h' m → News h₀ L h' ro → Q (.ref sl) { s with heap := h', toks := tk' }) :
    wpAny (MD w) A (call (.ref 466) [.ref sc, .int nb t1]) Q E s := by
  obtain ⟨k1, k2, k3, k4, k5, k6, k7, k8, k9, k10, k11, k12, k13, k14, k15, u1, u2, u3, u4, u5, u6, u7, rfl⟩ := SO
  have TB' := TB
  obtain ⟨dt, j1, j2, j3, j4, j5, j6, j7, j8, j9, n, T1, T2⟩ := TB'
  w_strict (
    refine fillK (w := w) ?_; k_fill; intro _ _
    k_dflt (refine enter [(Str.ofString "self", _), (Str.ofString "number", _)] S F N (by k_is) (by k_is) (fun _ _ => BindsTo.of_eq rfl) (locs rfl) rfl rfl rfl (by decide) ?_)
    clear S F N
    intro dp un gd outer A₀ base loose mean mg mb g L' h₁ tk S B F X N lt T hd hu st
    k_fold
    k_steps)
  try dsimp only
  refine EndK.of (by assumption) (by assumption) ?_
  intro kF kN
  exact ret _ _ kF kN
theorem more_ok {w : World} {k : Nat} {h₀ : Heap} {L : Addr} {A : Around} {m : Str → Option Value} {ro : List (Addr × Obj)} {s : Shared} {sc ds : Addr} {o : Obj} {a : ScA} {cs : List Nat} {pos began : Nat} {count start : Int} {ec : Str} {kept : Bool} {t1 t2 : Tok} {Q E : Value → Shared → Prop}
    (S : Sit w (k + 1) h₀ L A) (F : Fr h₀ L s.heap m) (N : News h₀ L s.heap ((ds, o) :: ro)) (off : ∀ p ∈ ro, p.1 ≠ ds) (hsc : (sc, instObj 476 ds) ∈ ro) (SO : ScObj w o a cs pos began count ec kept)
    (ret : ∀ o' h' tk', Fr h₀ L h' m → News h₀ L h' ((ds, o') :: ro) → ScObj w o' a cs pos began count ec true → Q .none { s with heap := h', toks := tk' }) :
    wpAny (MD w) A (call (.ref 430) [.ref sc, .str (Str.ofString "more") t1, .none, .int start t2]) Q E s := by
  obtain ⟨k1, k2, k3, k4, k5, k6, k7, k8, k9, k10, k11, k12, k13, k14, k15, u1, u2, u3, u4, u5, u6, u7, rfl⟩ := SO
  dsimp only [en] at N
  w_strict (
    refine fillK (w := w) ?_; k_fill; intro _ _
    k_dflt (refine enter [(Str.ofString "self", _), (Str.ofString "word", _), (Str.ofString "worth", _), (Str.ofString "start", _)] S F N (by k_is) (by k_is) (fun _ _ => BindsTo.of_eq rfl) (locs rfl) rfl rfl rfl (by decide) ?_)
    clear S F N
    intro dp un gd outer A₀ base loose mean mg mb g L' h₁ tk S B F X N lt T hd hu st
    k_fold
    k_steps)
  try dsimp only
  refine EndK.of (by assumption) (by assumption) ?_
  intro kF kN
  exact ret _ _ _ kF kN ⟨_, _, _, _, _, _, _, _, _, _, _, _, _, _, _, _, _, _, _, _, _, _, rfl⟩
theorem echo_ok {w : World} {k : Nat} {h₀ : Heap} {L : Addr} {A : Around} {m : Str → Option Value} {ro : List (Addr × Obj)} {s : Shared} {sc ds : Addr} {o : Obj} {a : ScA} {cs : List Nat} {pos began : Nat} {count start : Int} {ec : Str} {kept : Bool} {t1 t2 : Tok} {Q E : Value → Shared → Prop}
    (S : Sit w (k + 2) h₀ L A) (F : Fr h₀ L s.heap m) (N : News h₀ L s.heap ((ds, o) :: ro)) (off : ∀ p ∈ ro, p.1 ≠ ds) (hsc : (sc, instObj 476 ds) ∈ ro) (SO : ScObj w o a cs pos began count ec kept) (hx : cs.length ≤ 8) (hb : began ≤ pos) (hp : pos ≤ cs.length) (hec : ec.length ≤ 1000)
    (ret : ∀ o' h' tk', Fr h₀ L h' m → News h₀ L h' ((ds, o') :: ro) → ScObj w o' a cs pos began count (ec ++ partOf cs began pos) kept → Q .none { s with heap := h', toks := tk' }) :
    wpAny (MD w) A (call (.ref 430) [.ref sc, .str (Str.ofString "echo") t1, .none, .int start t2]) Q E s := by
  have hpl : (partOf cs began pos).length ≤ 8 := by
    have h1 : (partOf cs began pos).length ≤ (textOf cs).length := PySem.Txt.slice_le _ _ _
    have h2 : (textOf cs).length = cs.length := by simp [textOf, Str.length]
    lia
  have SO' := SO
  obtain ⟨k1, k2, k3, k4, k5, k6, k7, k8, k9, k10, k11, k12, k13, k14, k15, u1, u2, u3, u4, u5, u6, u7, rfl⟩ := SO'
  dsimp only [en] at N
  w_strict (
    refine fillK (w := w) ?_; k_fill; intro _ _
    k_dflt (refine enter [(Str.ofString "self", _), (Str.ofString "word", _), (Str.ofString "worth", _), (Str.ofString "start", _)] S F N (by k_is) (by k_is) (fun _ _ => BindsTo.of_eq rfl) (locs rfl) rfl rfl rfl (by decide) ?_)
    clear S F N
    intro dp un gd outer A₀ base loose mean mg mb g L' h₁ tk S B F X N lt T hd hu st
    k_fold
    k_steps)
  try dsimp only
  refine EndK.of (by assumption) (by assumption) ?_
  intro kF kN
  exact ret _ _ _ kF kN ⟨_, _, _, _, _, _, _, _, _, _, _, _, _, _, _, _, _, _, _, _, _, _, rfl⟩
theorem dict_ne {h₀ h : Heap} {L a d : Addr} {es es' : List DictEntry} {n n2 : Nat} {r : List (Addr × Obj)} (N : News h₀ L h r) (x : (a, dictOf es n) ∈ r) (y : (d, dictOf es' n2) ∈ r) (hl : es.length ≠ es'.length) : a ≠ d := fun e => by
  have h1 := same_obj N (e ▸ x : (d, _) ∈ r) y
  have h2 := congrArg Obj.data h1
  injection h2 with h3
  have h4 := congrArg Array.size h3
  simp at h4
  exact hl h4
theorem inst_ne {h₀ h : Heap} {L a d C : Addr} {dx : Addr} {o : Obj} {t : String} {r : List (Addr × Obj)} (N : News h₀ L h r) (x : (a, instObj C dx) ∈ r) (y : (d, o) ∈ r) (hc : o.cls = .type t) : a ≠ d := fun e => by
  have h1 := congrArg Obj.cls (same_obj N (e ▸ x : (d, _) ∈ r) y)
  rw [hc] at h1
  cases h1
theorem TokObj.carve_list {w : World} {h₀ h : Heap} {L d x : Addr} {a b : Str} {ys : Array Value} {n : Nat} {r : List (Addr × Obj)} (N : News h₀ L h r) (T : TokObj w r x a b) (y : (d, W.listOf ys n) ∈ r) : TokObj w (carve d r) x a b := by
  obtain ⟨dx, k1, k2, k3, k4, t1, t2, v1, v2, nn, p, q⟩ := T
  refine ⟨dx, k1, k2, k3, k4, t1, t2, v1, v2, nn, carve_mem p (inst_ne N p y rfl), carve_mem q (show dx ≠ d from fun e => ?_)⟩
  have h1 := congrArg Obj.cls (same_obj N (e ▸ q : (d, _) ∈ r) y)
  simp at h1
theorem TokObj.carve_sc {w : World} {h₀ h : Heap} {L d x : Addr} {a b : Str} {o : Obj} {sa : ScA} {cs : List Nat} {pos began : Nat} {count : Int} {ec : Str} {kept : Bool} {r : List (Addr × Obj)} (N : News h₀ L h r) (T : TokObj w r x a b) (y : (d, o) ∈ r) (SO : ScObj w o sa cs pos began count ec kept) : TokObj w (carve d r) x a b := by
  obtain ⟨dx, k1, k2, k3, k4, t1, t2, v1, v2, nn, p, q⟩ := T
  obtain ⟨k1, k2, k3, k4, k5, k6, k7, k8, k9, k10, k11, k12, k13, k14, k15, u1, u2, u3, u4, u5, u6, u7, rfl⟩ := SO
  exact ⟨dx, _, _, _, _, _, _, _, _, _, carve_mem p (inst_ne N p y rfl), carve_mem q (show dx ≠ d from dict_ne N q y (fun h => by simp at h))⟩
theorem tup_ne_sc {w : World} {h₀ h : Heap} {L a d : Addr} {xs : Array Value} {n : Nat} {o : Obj} {sa : ScA} {cs : List Nat} {pos began : Nat} {count : Int} {ec : Str} {kept : Bool} {r : List (Addr × Obj)} (N : News h₀ L h r) (x : (a, ({ cls := .type "tuple", data := .seq xs n } : Obj)) ∈ r) (y : (d, o) ∈ r) (SO : ScObj w o sa cs pos began count ec kept) : a ≠ d := fun e => by
  obtain ⟨k1, k2, k3, k4, k5, k6, k7, k8, k9, k10, k11, k12, k13, k14, k15, u1, u2, u3, u4, u5, u6, u7, rfl⟩ := SO
  have := congrArg Obj.cls (same_obj N (e ▸ x : (d, _) ∈ r) y)
  simp at this
local macro_rules | `(tactic| walk_at "call ref") => pure (κtO [κtB `steps_ok [κqm, κqm, κqb, (κsub `TablesAt.sub), κqm, κqb, κqb, (κsub `RuleObj.sub)], κtB `token_ok [κqm, κqm, κqb, κqb, κql, κql]])
noncomputable section
namespace perf0_ok
def St : Prop := ∀ {w : World} {k : Nat} {h₀ : Heap} {L : Addr} {A : Around} {m : Str → Option Value} {ro : List (Addr × Obj)} {s : Shared} {e : Env0} {o : Obj} {pos began : Nat} {count start : Int} {ec : Str} {kept : Bool} {t1 t2 : Tok} {Q E : Value → Shared → Prop} (S : Sit w (k + 5) h₀ L A) (F : Fr h₀ L s.heap m) (N : News h₀ L s.heap ((e.ds, o) :: ro)) (off : ∀ p ∈ ro, p.1 ≠ e.ds) (R : RoAt w ro e) (K : EnvOk e) (SO : ScObj w o e.sa e.cs pos began count ec kept) (hb : began ≤ pos) (hp : pos ≤ e.cs.length) (ret : ∀ r x h' tk' ro', Fr h₀ L h' m → News h₀ L h' ((e.ds, o) :: ro') → (∀ p ∈ ro', p.1 ≠ e.ds) → Sub ro ro' → TupAt ro' r [.bool false, .ref x] → TokObj w ro' x (Str.ofString "A") (partOf e.cs began pos) → Q (.ref r) { s with heap := h', toks := tk' }),
    wpAny (MD w) A (call (.ref 423) [.ref e.sc, .int 0 t1, .int start t2]) Q E s
def G1 : {P : Env0 → Nat → Nat → Int → Int → Str → Bool → Tok → Tok → (List Value) → Nat → Addr → Addr → Addr → Addr → Addr → Addr → Tok → Nat → Nat → Nat → Addr → Tok → Tok → Tok → Nat → Tok → Tok → Tok → Tok → Tok → Tok → Tok → Tok → Tok → Tok → Tok → Tok → Tok → Tok → Tok → Tok → Tok → Tok → Tok → Tok → Tok → Tok → World → Heap → Addr → Around → SOV → LAO → Shared → VSP → VSP → Nat → Nat → (Option (List Code)) → (List Env) → Around → Heap → (List Str) → EOV → SOV → SOV → Heap → Addr → Heap → Nat → Prop // (∀ e pos began count start ec kept t1 t2 ns nn r0 r1 s0 s1 x0 x1 t3 n1 n2 n3 dx0 i1 i2 i3 i4 k1 k2 k3 k4 k5 k6 k7 k8 k9 k10 k11 k12 k13 k14 k15 u1 u2 u3 u4 u5 u6 u7 w h₀ L A m ro s Q E dp un gd outer A₀ base loose mean mg mb g L' h₁ tk, P e pos began count start ec kept t1 t2 ns nn r0 r1 s0 s1 x0 x1 t3 n1 n2 n3 dx0 i1 i2 i3 i4 k1 k2 k3 k4 k5 k6 k7 k8 k9 k10 k11 k12 k13 k14 k15 u1 u2 u3 u4 u5 u6 u7 w h₀ L A m ro s Q E dp un gd outer A₀ base loose mean mg mb g L' h₁ tk) → St} := ⟨_, by
  intro hh w k h₀ L A m ro s e o pos began count start ec kept t1 t2 Q E S F N off R K SO hb hp ret
  refine lessK S ?_
  clear S k; intro S
  obtain ⟨o0, o1, hx, hcs⟩ := id K
  obtain ⟨hsc, TB, HE, GV, RL, EN, ns, nn, hnl, hns⟩ := id R
  obtain ⟨r0, r1, s0, s1, x0, x1, t3, ⟨n1, hl⟩, RO0, RO1, ⟨n2, hs0⟩, ⟨n3, hs1⟩, ST0, ST1⟩ := RL
  obtain ⟨dx0, i1, i2, i3, i4, W1, W2⟩ := ST0
  have hr0 : [Value.ref r0, Value.ref r1][(0 : Int).toNat]? = some (Value.ref r0) := rfl
  have h00 : (0 : Int) = 0 ∨ (0 : Int) = 1 := .inl rfl
  have SO' := SO
  obtain ⟨k1, k2, k3, k4, k5, k6, k7, k8, k9, k10, k11, k12, k13, k14, k15, u1, u2, u3, u4, u5, u6, u7, rfl⟩ := SO'
  refine fillK (w := w) ?_; k_fill; intro _ _
  k_dflt (refine enter [(Str.ofString "self", _), (Str.ofString "number", _), (Str.ofString "start", _)] S F N (by k_is) (by k_is) (fun _ _ => BindsTo.of_eq rfl) (locs rfl) rfl rfl rfl (by decide) ?_)
  clear S F N
  intro dp un gd outer A₀ base loose mean mg mb g L' h₁ tk S B F X N lt T hd hu st
  rename_i ξ1 ξ2
  clear ξ1 ξ2
  revert off R K hb hp o0 o1 hx hcs hsc TB HE GV EN hnl hns RO0 RO1 ST1 hl hs0 hs1 W1 W2 hr0 h00 SO ret S B F X N lt T hd hu st
  exact hh e pos began count start ec kept t1 t2 ns nn r0 r1 s0 s1 x0 x1 t3 n1 n2 n3 dx0 i1 i2 i3 i4 k1 k2 k3 k4 k5 k6 k7 k8 k9 k10 k11 k12 k13 k14 k15 u1 u2 u3 u4 u5 u6 u7 w h₀ L A m ro s Q E dp un gd outer A₀ base loose mean mg mb g L' h₁ tk⟩
def R1 (ξ : Cx × ((((((Env0 × Nat) × Nat) × ((Int × Int) × Str)) × (((Bool × Tok) × Tok) × (((List Value) × Nat) × Addr))) × ((((Addr × Addr) × Addr) × ((Addr × Addr) × Tok)) × (((Nat × Nat) × Nat) × ((Addr × Tok) × Tok)))) × (((((Tok × Nat) × Tok) × ((Tok × Tok) × Tok)) × (((Tok × Tok) × Tok) × ((Tok × Tok) × Tok))) × ((((Tok × Tok) × Tok) × ((Tok × Tok) × Tok)) × (((Tok × Tok) × Tok) × ((Tok × Tok) × Tok)))))) := fun e start t1 t2 nn x0 n2 w m ro tk => G1.1 e ξ.2.1.1.1.1.1.2 ξ.2.1.1.1.1.2 ξ.2.1.1.1.2.1.1 start ξ.2.1.1.1.2.2 ξ.2.1.1.2.1.1.1 t1 t2 ξ.2.1.1.2.2.1.1 nn ξ.2.1.1.2.2.2 ξ.2.1.2.1.1.1.1 ξ.2.1.2.1.1.1.2 ξ.2.1.2.1.1.2 x0 ξ.2.1.2.1.2.1.2 ξ.2.1.2.1.2.2 ξ.2.1.2.2.1.1.1 n2 ξ.2.1.2.2.1.2 ξ.2.1.2.2.2.1.1 ξ.2.1.2.2.2.1.2 ξ.2.1.2.2.2.2 ξ.2.2.1.1.1.1.1 ξ.2.2.1.1.1.1.2 ξ.2.2.1.1.1.2 ξ.2.2.1.1.2.1.1 ξ.2.2.1.1.2.1.2 ξ.2.2.1.1.2.2 ξ.2.2.1.2.1.1.1 ξ.2.2.1.2.1.1.2 ξ.2.2.1.2.1.2 ξ.2.2.1.2.2.1.1 ξ.2.2.1.2.2.1.2 ξ.2.2.1.2.2.2 ξ.2.2.2.1.1.1.1 ξ.2.2.2.1.1.1.2 ξ.2.2.2.1.1.2 ξ.2.2.2.1.2.1.1 ξ.2.2.2.1.2.1.2 ξ.2.2.2.1.2.2 ξ.2.2.2.2.1.1.1 ξ.2.2.2.2.1.1.2 ξ.2.2.2.2.1.2 ξ.2.2.2.2.2.1.1 ξ.2.2.2.2.2.1.2 ξ.2.2.2.2.2.2 w ξ.1.h₀ ξ.1.L ξ.1.A m ro ξ.1.s ξ.1.Q ξ.1.E ξ.1.dp ξ.1.un ξ.1.gd ξ.1.outer ξ.1.A₀ ξ.1.base ξ.1.loose ξ.1.mean ξ.1.mg ξ.1.mb ξ.1.g ξ.1.L' ξ.1.h₁ tk
def P1 (ξ : Cx × ((((((Env0 × Nat) × Nat) × ((Int × Int) × Str)) × (((Bool × Tok) × Tok) × (((List Value) × Nat) × Addr))) × ((((Addr × Addr) × Addr) × ((Addr × Addr) × Tok)) × (((Nat × Nat) × Nat) × ((Addr × Tok) × Tok)))) × (((((Tok × Nat) × Tok) × ((Tok × Tok) × Tok)) × (((Tok × Tok) × Tok) × ((Tok × Tok) × Tok))) × ((((Tok × Tok) × Tok) × ((Tok × Tok) × Tok)) × (((Tok × Tok) × Tok) × ((Tok × Tok) × Tok)))))) : Prop := R1 ξ ξ.2.1.1.1.1.1.1 ξ.2.1.1.1.2.1.2 ξ.2.1.1.2.1.1.2 ξ.2.1.1.2.1.2 ξ.2.1.1.2.2.1.2 ξ.2.1.2.1.2.1.1 ξ.2.1.2.2.1.1.2 ξ.1.w ξ.1.m ξ.1.ro ξ.1.tk
@[irreducible] def z1 : Cx × ((((((Env0 × Nat) × Nat) × ((Int × Int) × Str)) × (((Bool × Tok) × Tok) × (((List Value) × Nat) × Addr))) × ((((Addr × Addr) × Addr) × ((Addr × Addr) × Tok)) × (((Nat × Nat) × Nat) × ((Addr × Tok) × Tok)))) × (((((Tok × Nat) × Tok) × ((Tok × Tok) × Tok)) × (((Tok × Tok) × Tok) × ((Tok × Tok) × Tok))) × ((((Tok × Tok) × Tok) × ((Tok × Tok) × Tok)) × (((Tok × Tok) × Tok) × ((Tok × Tok) × Tok))))) := ep P1 (by walk_at "ne")
@[irreducible] def e := z1.2.1.1.1.1.1.1
@[irreducible] def start := z1.2.1.1.1.2.1.2
@[irreducible] def t1 := z1.2.1.1.2.1.1.2
@[irreducible] def t2 := z1.2.1.1.2.1.2
@[irreducible] def nn := z1.2.1.1.2.2.1.2
@[irreducible] def x0 := z1.2.1.2.1.2.1.1
@[irreducible] def n2 := z1.2.1.2.2.1.1.2
@[irreducible] def w := z1.1.w
@[irreducible] def m := z1.1.m
@[irreducible] def ro := z1.1.ro
@[irreducible] def tk := z1.1.tk
theorem m1 : R1 z1 e start t1 t2 nn x0 n2 w m ro tk := by
  intro off R K hb hp o0 o1 hx hcs hsc TB HE GV EN hnl hns RO0 RO1 ST1 hl hs0 hs1 W1 W2 hr0 h00 SO ret S B F X N lt T hd hu st
  w_strict (
    refine fillK (w := w) ?_; k_fill; intro _ _
    k_fold
    k_steps)
  rename_i h3 tk3 F4 N4
  unfold Hold
  refine iterL (vs := [.ref x0]) (nn := n2) (fun i m nw => i = 0 ∧ m = (fun y => List.lookup y [(Str.ofString "self", Value.ref e.sc), (Str.ofString "number", Value.int 0 t1), (Str.ofString "start", Value.int start t2)].reverse) ∧ nw = (e.ds, _) :: ro) rfl (fun i m nw hJ => by rw [hJ.2.2]; exact .tail _ hs0) F4 N4 ⟨rfl, rfl, rfl⟩ ?turn ?done
  case' turn =>
    rintro i v m₁ nw I oI h tk hv ⟨rfl, rfl, rfl⟩ offI F7 N7
    k_fold
    clear F4 N4
    obtain rfl : v = .ref x0 := by simpa using hv.symm
    w_strict k_steps
  case done =>
    rintro m₁ nw h tk ⟨h0, rfl, rfl⟩
    cases h0
  rename_i x9 h9 tk9 ro9 sb9 fr9 TO9 D9 h10 F9 N9 l9
  have hds9 := sb9 _ (.tail _ (.head _))
  have hDd : D9 ≠ e.ds := neN (Nat.ne_of_gt (l9 _ hds9))
  refine EndK.of (by assumption) (by assumption) ?_
  intro kF kN
  refine ret D9 x9 _ _ (carve e.ds ((D9, _) :: ro9)) kF (carve_news kN (.tail _ hds9)) carve_off (fun p hp => carve_mem (.tail _ (sb9 _ (.tail _ (.tail _ hp)))) (off p hp)) (carve_mem (.head _) hDd) ((TO9.sub (Sub.refl _).cons).carve_sc kN (.tail _ hds9) SO)
end perf0_ok
end
theorem perf0_ok : perf0_ok.St := perf0_ok.G1.2 (fun e pos began count start ec kept t1 t2 ns nn r0 r1 s0 s1 x0 x1 t3 n1 n2 n3 dx0 i1 i2 i3 i4 k1 k2 k3 k4 k5 k6 k7 k8 k9 k10 k11 k12 k13 k14 k15 u1 u2 u3 u4 u5 u6 u7 w h₀ L A m ro s Q E dp un gd outer A₀ base loose mean mg mb g L' h₁ tk => @ep_go _ perf0_ok.P1 _ _ (by with_unfolding_all exact perf0_ok.m1) ((⟨m, ro, Q, E, s, A, L, h₀, 0, w, dp, un, gd, outer, A₀, base, loose, mean, mg, mb, g, L', h₁, tk⟩ : Cx), ((((((e, pos), began), ((count, start), ec)), (((kept, t1), t2), ((ns, nn), r0))), ((((r1, s0), s1), ((x0, x1), t3)), (((n1, n2), n3), ((dx0, i1), i2)))), (((((i3, i4), k1), ((k2, k3), k4)), (((k5, k6), k7), ((k8, k9), k10))), ((((k11, k12), k13), ((k14, k15), u1)), (((u2, u3), u4), ((u5, u6), u7)))))) (by kernel_rfl))
/-- perform for rule 1: more -/
theorem perf1m_ok {w : World} {k : Nat} {h₀ : Heap} {L : Addr} {A : Around} {m : Str → Option Value} {ro : List (Addr × Obj)} {s : Shared} {e : Env0} {o : Obj} {pos began : Nat} {count start : Int} {ec : Str} {kept : Bool} {t1 t2 : Tok} {Q E : Value → Shared → Prop}
    (S : Sit w (k + 5) h₀ L A) (F : Fr h₀ L s.heap m) (N : News h₀ L s.heap ((e.ds, o) :: ro)) (off : ∀ p ∈ ro, p.1 ≠ e.ds) (R : RoAt w ro e) (K : EnvOk e) (SO : ScObj w o e.sa e.cs pos began count ec kept) (hb : began ≤ pos) (hp : pos ≤ e.cs.length) (hec : ec.length ≤ 1000) (hm : e.more = true)
    (ret : ∀ r o' h' tk' ro', Fr h₀ L h' m → News h₀ L h' ((e.ds, o') :: ro') → (∀ p ∈ ro', p.1 ≠ e.ds) → Sub ro ro' → TupAt ro' r [.bool false, .none] → ScObj w o' e.sa e.cs pos began count ec true → Q (.ref r) { s with heap := h', toks := tk' }) :
    wpAny (MD w) A (call (.ref 423) [.ref e.sc, .int 1 t1, .int start t2]) Q E s := by
  obtain ⟨o0, o1, hx, hcs⟩ := id K
  obtain ⟨hsc, TB, HE, GV, RL, EN, ns, nn, hnl, hns⟩ := id R
  obtain ⟨r0, r1, s0, s1, x0, x1, t3, ⟨n1, hl⟩, RO0, RO1, ⟨n2, hs0⟩, ⟨n3, hs1⟩, ST0, ST1⟩ := RL
  obtain ⟨dx1, i1, i2, i3, i4, W1, W2⟩ := ST1
  rw [hm] at W2
  simp only [wordOf, if_true, if_false, Bool.false_eq_true] at W2
  have hr0 : [Value.ref r0, Value.ref r1][(1 : Int).toNat]? = some (Value.ref r1) := rfl
  have h00 : (1 : Int) = 0 ∨ (1 : Int) = 1 := .inr rfl
  have SO' := SO
  obtain ⟨k1, k2, k3, k4, k5, k6, k7, k8, k9, k10, k11, k12, k13, k14, k15, u1, u2, u3, u4, u5, u6, u7, rfl⟩ := SO'
  w_strict (
    refine fillK (w := w) ?_; k_fill; intro _ _
    k_dflt (refine enter [(Str.ofString "self", _), (Str.ofString "number", _), (Str.ofString "start", _)] S F N (by k_is) (by k_is) (fun _ _ => BindsTo.of_eq rfl) (locs rfl) rfl rfl rfl (by decide) ?_)
    clear S F N
    intro dp un gd outer A₀ base loose mean mg mb g L' h₁ tk S B F X N lt T hd hu st
    k_fold
    k_steps)
  rename_i h3 tk3 F4 N4
  unfold Hold
  refine iterL (vs := [.ref x1]) (nn := n3) (fun i m nw => (i = 0 ∧ m = up (Str.ofString "step") none (fun y => List.lookup y [(Str.ofString "self", Value.ref e.sc), (Str.ofString "number", Value.int 1 t1), (Str.ofString "start", Value.int start t2)].reverse) ∧ nw = (e.ds, _) :: ro) ∨ (i = 1 ∧ ∃ u o', m = up (Str.ofString "step") u (fun y => List.lookup y [(Str.ofString "self", Value.ref e.sc), (Str.ofString "number", Value.int 1 t1), (Str.ofString "start", Value.int start t2)].reverse) ∧ nw = (e.ds, o') :: ro ∧ ScObj w o' e.sa e.cs pos began count ec true)) rfl (fun i m nw hJ => by
    rcases hJ with ⟨_, _, rfl⟩ | ⟨_, _, _, _, rfl, _⟩
    · exact .tail _ hs1
    · exact .tail _ hs1) F4 N4 (.inl ⟨rfl, up_none rfl, rfl⟩) ?turn ?done
  case' turn =>
    rintro i v m₁ nw I oI h tk hv hJ offI F7 N7
    k_fold
    clear F4 N4
    rcases hJ with ⟨rfl, rfl, rfl⟩ | ⟨rfl, _⟩
    case' inr => cases hv
    obtain rfl : v = .ref x1 := by simpa using hv.symm
    have hI : @Ne Nat I e.ds := Ne.symm (offI _ (.head _))
    w_strict k_steps
    k_dflt (refine more_ok (k := 0) (ro := (I, oI) :: ro) (Sit.lessN (by assumption) (by decide)) (by k_asm) (newsSwap (by k_asm)) (List.forall_mem_cons.mpr ⟨hI, off⟩) (.tail _ hsc) SO ?_)
    intro o9 h9 tk9 F9 N9 SO9
    k_sweep
    w_strict k_steps
  case' done =>
    rintro m₁ nw h tk hJ F7 N7
    clear F4 N4
    rcases hJ with ⟨h0, _⟩ | ⟨_, u, o9, rfl, rfl, SO9⟩
    case' inl => cases h0
    (try dsimp only)
    w_strict k_steps
  · rename_i D9 h9 F9 N9 l9
    have l9' : @LT.lt Nat _ e.ds D9 := l9.1
    refine EndK.of F9 N9 ?_
    intro kF kN
    exact ret D9 o9 _ _ ((D9, _) :: ro) kF (newsSwap kN) (List.forall_mem_cons.mpr ⟨neN (Nat.ne_of_gt l9'), off⟩) (Sub.refl _).cons (.head _) SO9
  · refine TurnEnd.of ((e.ds, o9) :: ro) F9 N9 (by walk_at "sublist") (List.forall_mem_cons.mpr ⟨Ne.symm hI, fun p hp => offI p (.tail _ hp)⟩) (.inr ⟨by trivial, some (.ref x1), o9, ?_, rfl, SO9⟩)
    walk_at "same locals"
/-- perform for rule 1: echo -/
theorem perf1e_ok {w : World} {k : Nat} {h₀ : Heap} {L : Addr} {A : Around} {m : Str → Option Value} {ro : List (Addr × Obj)} {s : Shared} {e : Env0} {o : Obj} {pos began : Nat} {count start : Int} {ec : Str} {kept : Bool} {t1 t2 : Tok} {Q E : Value → Shared → Prop}
    (S : Sit w (k + 5) h₀ L A) (F : Fr h₀ L s.heap m) (N : News h₀ L s.heap ((e.ds, o) :: ro)) (off : ∀ p ∈ ro, p.1 ≠ e.ds) (R : RoAt w ro e) (K : EnvOk e) (SO : ScObj w o e.sa e.cs pos began count ec kept) (hb : began ≤ pos) (hp : pos ≤ e.cs.length) (hec : ec.length ≤ 1000) (hm : e.more = false)
    (ret : ∀ r o' h' tk' ro', Fr h₀ L h' m → News h₀ L h' ((e.ds, o') :: ro') → (∀ p ∈ ro', p.1 ≠ e.ds) → Sub ro ro' → TupAt ro' r [.bool false, .none] → ScObj w o' e.sa e.cs pos began count (ec ++ partOf e.cs began pos) kept → Q (.ref r) { s with heap := h', toks := tk' }) :
    wpAny (MD w) A (call (.ref 423) [.ref e.sc, .int 1 t1, .int start t2]) Q E s := by
  obtain ⟨o0, o1, hx, hcs⟩ := id K
  obtain ⟨hsc, TB, HE, GV, RL, EN, ns, nn, hnl, hns⟩ := id R
  obtain ⟨r0, r1, s0, s1, x0, x1, t3, ⟨n1, hl⟩, RO0, RO1, ⟨n2, hs0⟩, ⟨n3, hs1⟩, ST0, ST1⟩ := RL
  obtain ⟨dx1, i1, i2, i3, i4, W1, W2⟩ := ST1
  rw [hm] at W2
  simp only [wordOf, if_true, if_false, Bool.false_eq_true] at W2
  have hr0 : [Value.ref r0, Value.ref r1][(1 : Int).toNat]? = some (Value.ref r1) := rfl
  have h00 : (1 : Int) = 0 ∨ (1 : Int) = 1 := .inr rfl
  have SO' := SO
  obtain ⟨k1, k2, k3, k4, k5, k6, k7, k8, k9, k10, k11, k12, k13, k14, k15, u1, u2, u3, u4, u5, u6, u7, rfl⟩ := SO'
  w_strict (
    refine fillK (w := w) ?_; k_fill; intro _ _
    k_dflt (refine enter [(Str.ofString "self", _), (Str.ofString "number", _), (Str.ofString "start", _)] S F N (by k_is) (by k_is) (fun _ _ => BindsTo.of_eq rfl) (locs rfl) rfl rfl rfl (by decide) ?_)
    clear S F N
    intro dp un gd outer A₀ base loose mean mg mb g L' h₁ tk S B F X N lt T hd hu st
    k_fold
    k_steps)
  rename_i h3 tk3 F4 N4
  unfold Hold
  refine iterL (vs := [.ref x1]) (nn := n3) (fun i m nw => (i = 0 ∧ m = up (Str.ofString "step") none (fun y => List.lookup y [(Str.ofString "self", Value.ref e.sc), (Str.ofString "number", Value.int 1 t1), (Str.ofString "start", Value.int start t2)].reverse) ∧ nw = (e.ds, _) :: ro) ∨ (i = 1 ∧ ∃ u o', m = up (Str.ofString "step") u (fun y => List.lookup y [(Str.ofString "self", Value.ref e.sc), (Str.ofString "number", Value.int 1 t1), (Str.ofString "start", Value.int start t2)].reverse) ∧ nw = (e.ds, o') :: ro ∧ ScObj w o' e.sa e.cs pos began count (ec ++ partOf e.cs began pos) kept)) rfl (fun i m nw hJ => by
    rcases hJ with ⟨_, _, rfl⟩ | ⟨_, _, _, _, rfl, _⟩
    · exact .tail _ hs1
    · exact .tail _ hs1) F4 N4 (.inl ⟨rfl, up_none rfl, rfl⟩) ?turn ?done
  case' turn =>
    rintro i v m₁ nw I oI h tk hv hJ offI F7 N7
    k_fold
    clear F4 N4
    rcases hJ with ⟨rfl, rfl, rfl⟩ | ⟨rfl, _⟩
    case' inr => cases hv
    obtain rfl : v = .ref x1 := by simpa using hv.symm
    have hI : @Ne Nat I e.ds := Ne.symm (offI _ (.head _))
    w_strict k_steps
    k_dflt (refine echo_ok (k := 0) (ro := (I, oI) :: ro) (Sit.lessN (by assumption) (by decide)) (by k_asm) (newsSwap (by k_asm)) (List.forall_mem_cons.mpr ⟨hI, off⟩) (.tail _ hsc) SO (by assumption) (by assumption) (by assumption) (by assumption) ?_)
    intro o9 h9 tk9 F9 N9 SO9
    k_sweep
    w_strict k_steps
  case' done =>
    rintro m₁ nw h tk hJ F7 N7
    clear F4 N4
    rcases hJ with ⟨h0, _⟩ | ⟨_, u, o9, rfl, rfl, SO9⟩
    case' inl => cases h0
    (try dsimp only)
    w_strict k_steps
  · rename_i D9 h9 F9 N9 l9
    have l9' : @LT.lt Nat _ e.ds D9 := l9.1
    refine EndK.of F9 N9 ?_
    intro kF kN
    exact ret D9 o9 _ _ ((D9, _) :: ro) kF (newsSwap kN) (List.forall_mem_cons.mpr ⟨neN (Nat.ne_of_gt l9'), off⟩) (Sub.refl _).cons (.head _) SO9
  · refine TurnEnd.of ((e.ds, o9) :: ro) F9 N9 (by walk_at "sublist") (List.forall_mem_cons.mpr ⟨Ne.symm hI, fun p hp => offI p (.tail _ hp)⟩) (.inr ⟨by trivial, some (.ref x1), o9, ?_, rfl, SO9⟩)
    walk_at "same locals"
local macro_rules | `(tactic| walk_at "call ref") => pure (κtO [κtB `begins_ok [κqm, κqm, κqb, κqb, κqb, κqb], κtB `autom_ok [(κsub `TablesAt.sub), (κsub `HeldAt.sub)], κtB `endings_one [κqx, κqb, κqb, κqm, κqb, κqb, κqb, κql], κtB `cutlen_ok [(κsub `TablesAt.sub), (κsub `GivenAt.sub), κqb, κqm, κql]])
theorem Each.at2 {α : Type} {R : Addr → α → Prop} {as : List Addr} {xs : List α} (e : Each R as xs) {i : Nat} {v : Value} (h : (as.map Value.ref)[i]? = some v) : ∃ a x, v = .ref a ∧ xs[i]? = some x ∧ R a x := by
  have hi : i < (as.map Value.ref).length := (List.getElem?_eq_some_iff.mp h).1
  have hl := e.length
  rw [List.length_map] at hi
  have hx : xs[i]? = some (xs[i]'(by lia)) := List.getElem?_eq_getElem (by lia)
  obtain ⟨a, ha, hr⟩ := e.at hx
  rw [List.getElem?_map, ha] at h
  cases h
  exact ⟨a, _, rfl, hx, hr⟩
inductive candJ (cuts : Int → Bool × Int) (pos : Nat) (ents : List (Nat × List Int)) (ro1 : List (Addr × Obj)) (rs : Addr) (base : Str → Option Value) (i : Nat) (m : Str → Option Value) (nw : List (Addr × Obj)) : Prop
  | mk : ∀ (ro' : List (Addr × Obj)) (u1 u2 u3 u4 u5 : Option Value), (nw = (rs, W.listOf #[] 0) :: ro') → (Sub ro1 ro') → ((∀ p ∈ ro', p.1 ≠ rs)) → (candD cuts pos (ents.drop i) = candD cuts pos ents) → (m = up (Str.ofString "length") u5 (up (Str.ofString "number") u4 (up (Str.ofString "matched") u3 (up (Str.ofString "tags") u2 (up (Str.ofString "end") u1 base))))) → candJ cuts pos ents ro1 rs base i m nw
inductive tryJ (cuts : Int → Bool × Int) (pos e : Nat) (tg : List Int) (base : Str → Option Value) (j : Nat) (m : Str → Option Value) : Prop
  | mk : ∀ (u4 u5 : Option Value), (tryD cuts pos e (tg.drop j) = tryD cuts pos e tg) → (m = up (Str.ofString "length") u5 (up (Str.ofString "number") u4 base)) → tryJ cuts pos e tg base j m
theorem wm_len {n wm : Nat} {xe pos : Nat} (h : wm = min (min (xe : Int).toNat n - (pos : Int).toNat) (n - (pos : Int).toNat)) (h1 : pos < xe) (h2 : xe ≤ n) : (wm : Int) = (xe : Int) - pos := by
  simp only [Int.toNat_natCast, Nat.min_eq_left h2, Nat.min_eq_left (Nat.sub_le_sub_right h2 pos)] at h
  rw [h, Int.ofNat_sub (Nat.le_of_lt h1)]
noncomputable section
namespace cand_ok
def St : Prop := ∀ {w : World} {k : Nat} {h₀ : Heap} {L : Addr} {A : Around} {m : Str → Option Value} {ro : List (Addr × Obj)} {s : Shared} {e : Env0} {o : Obj} {pos p0 began : Nat} {count : Int} {ec : Str} {kept : Bool} {t1 : Tok} {Q E : Value → Shared → Prop} (S : Sit w (k + 4) h₀ L A) (F : Fr h₀ L s.heap m) (N : News h₀ L s.heap ro) (R : RoAt w ro e) (K : EnvOk e) (hds : (e.ds, o) ∈ ro) (SO : ScObj w o e.sa e.cs p0 began count ec kept) (hp : pos < e.cs.length) (ret : ∀ r h' tk' ro', Fr h₀ L h' m → News h₀ L h' ro' → Sub ro ro' → (∀ p ∈ ro, p.1 ≠ r) → CandAt ro' r (candAt e pos) → Q (.ref r) { s with heap := h', toks := tk' }),
    wpAny (MD w) A (call (.ref 459) [.ref e.sc, .int pos t1]) Q E s
def G1 : {P : Env0 → Nat → Nat → Nat → Int → Str → Bool → Tok → (List Value) → Nat → Addr → Tok → Tok → Tok → Tok → Tok → Tok → Tok → Tok → Tok → Nat → Tok → Tok → Tok → Tok → Tok → Tok → Tok → Tok → Tok → Tok → Tok → Tok → Tok → Tok → Tok → Tok → Tok → Tok → Tok → Tok → Tok → Tok → World → Heap → Addr → Around → SOV → LAO → Shared → VSP → VSP → Nat → Nat → (Option (List Code)) → (List Env) → Around → Heap → (List Str) → EOV → SOV → SOV → Heap → Addr → Heap → Nat → Prop // (∀ e pos p0 began count ec kept t1 ns nn dt j1 j2 j3 j4 j5 j6 j7 j8 j9 n k1 k2 k3 k4 k5 k6 k7 k8 k9 k10 k11 k12 k13 k14 k15 y1 y2 y3 y4 y5 y6 y7 w h₀ L A m ro s Q E dp un gd outer A₀ base loose mean mg mb g L' h₁ tk, P e pos p0 began count ec kept t1 ns nn dt j1 j2 j3 j4 j5 j6 j7 j8 j9 n k1 k2 k3 k4 k5 k6 k7 k8 k9 k10 k11 k12 k13 k14 k15 y1 y2 y3 y4 y5 y6 y7 w h₀ L A m ro s Q E dp un gd outer A₀ base loose mean mg mb g L' h₁ tk) → St} := ⟨_, by
  intro hh w k h₀ L A m ro s e o pos p0 began count ec kept t1 Q E S F N R K hds SO hp ret
  refine lessK S ?_
  clear S k; intro S
  obtain ⟨o0, o1, hx, hcs⟩ := id K
  obtain ⟨hsc, TB, HE, GV, RL, EN, ns, nn, hnl, hns⟩ := id R
  have TB' := TB
  obtain ⟨dt, j1, j2, j3, j4, j5, j6, j7, j8, j9, n, T1, T2⟩ := TB'
  have SO' := SO
  obtain ⟨k1, k2, k3, k4, k5, k6, k7, k8, k9, k10, k11, k12, k13, k14, k15, y1, y2, y3, y4, y5, y6, y7, rfl⟩ := SO'
  have hob := K.ob pos
  refine fillK (w := w) ?_; k_fill; intro _ _
  k_dflt (refine enter [(Str.ofString "self", _), (Str.ofString "start", _)] S F N (by k_is) (by k_is) (fun _ _ => BindsTo.of_eq rfl) (locs rfl) rfl rfl rfl (by decide) ?_)
  clear S F N
  intro dp un gd outer A₀ base loose mean mg mb g L' h₁ tk S B F X N lt T hd hu st
  rename_i ξ1 ξ2
  clear ξ1 ξ2
  revert R K hp ret o0 o1 hx hcs hsc TB HE GV RL EN hnl hns T1 T2 hds SO hob S B F X N lt T hd hu st
  apply (hh e pos p0 began count ec kept t1 ns nn dt j1 j2 j3 j4 j5 j6 j7 j8 j9 n k1 k2 k3 k4 k5 k6 k7 k8 k9 k10 k11 k12 k13 k14 k15 y1 y2 y3 y4 y5 y6 y7 w h₀ L A m ro s Q E dp un gd outer A₀ base loose mean mg mb g L' h₁ tk)⟩
def R1 (ξ : Cx × ((((((Env0 × Nat) × Nat) × ((Nat × Int) × Str)) × (((Bool × Tok) × (List Value)) × (Nat × Addr))) × ((((Tok × Tok) × Tok) × ((Tok × Tok) × Tok)) × (((Tok × Tok) × Tok) × (Nat × Tok)))) × (((((Tok × Tok) × Tok) × ((Tok × Tok) × Tok)) × (((Tok × Tok) × Tok) × (Tok × Tok))) × ((((Tok × Tok) × Tok) × (Tok × Tok)) × (((Tok × Tok) × Tok) × (Tok × Tok)))))) := fun e pos t1 ns nn n w m tk => G1.1 e pos ξ.2.1.1.1.1.2 ξ.2.1.1.1.2.1.1 ξ.2.1.1.1.2.1.2 ξ.2.1.1.1.2.2 ξ.2.1.1.2.1.1.1 t1 ns nn ξ.2.1.1.2.2.2 ξ.2.1.2.1.1.1.1 ξ.2.1.2.1.1.1.2 ξ.2.1.2.1.1.2 ξ.2.1.2.1.2.1.1 ξ.2.1.2.1.2.1.2 ξ.2.1.2.1.2.2 ξ.2.1.2.2.1.1.1 ξ.2.1.2.2.1.1.2 ξ.2.1.2.2.1.2 n ξ.2.1.2.2.2.2 ξ.2.2.1.1.1.1.1 ξ.2.2.1.1.1.1.2 ξ.2.2.1.1.1.2 ξ.2.2.1.1.2.1.1 ξ.2.2.1.1.2.1.2 ξ.2.2.1.1.2.2 ξ.2.2.1.2.1.1.1 ξ.2.2.1.2.1.1.2 ξ.2.2.1.2.1.2 ξ.2.2.1.2.2.1 ξ.2.2.1.2.2.2 ξ.2.2.2.1.1.1.1 ξ.2.2.2.1.1.1.2 ξ.2.2.2.1.1.2 ξ.2.2.2.1.2.1 ξ.2.2.2.1.2.2 ξ.2.2.2.2.1.1.1 ξ.2.2.2.2.1.1.2 ξ.2.2.2.2.1.2 ξ.2.2.2.2.2.1 ξ.2.2.2.2.2.2 w ξ.1.h₀ ξ.1.L ξ.1.A m ξ.1.ro ξ.1.s ξ.1.Q ξ.1.E ξ.1.dp ξ.1.un ξ.1.gd ξ.1.outer ξ.1.A₀ ξ.1.base ξ.1.loose ξ.1.mean ξ.1.mg ξ.1.mb ξ.1.g ξ.1.L' ξ.1.h₁ tk
def P1 (ξ : Cx × ((((((Env0 × Nat) × Nat) × ((Nat × Int) × Str)) × (((Bool × Tok) × (List Value)) × (Nat × Addr))) × ((((Tok × Tok) × Tok) × ((Tok × Tok) × Tok)) × (((Tok × Tok) × Tok) × (Nat × Tok)))) × (((((Tok × Tok) × Tok) × ((Tok × Tok) × Tok)) × (((Tok × Tok) × Tok) × (Tok × Tok))) × ((((Tok × Tok) × Tok) × (Tok × Tok)) × (((Tok × Tok) × Tok) × (Tok × Tok)))))) : Prop := R1 ξ ξ.2.1.1.1.1.1.1 ξ.2.1.1.1.1.1.2 ξ.2.1.1.2.1.1.2 ξ.2.1.1.2.1.2 ξ.2.1.1.2.2.1 ξ.2.1.2.2.2.1 ξ.1.w ξ.1.m ξ.1.tk
@[irreducible] def z1 : Cx × ((((((Env0 × Nat) × Nat) × ((Nat × Int) × Str)) × (((Bool × Tok) × (List Value)) × (Nat × Addr))) × ((((Tok × Tok) × Tok) × ((Tok × Tok) × Tok)) × (((Tok × Tok) × Tok) × (Nat × Tok)))) × (((((Tok × Tok) × Tok) × ((Tok × Tok) × Tok)) × (((Tok × Tok) × Tok) × (Tok × Tok))) × ((((Tok × Tok) × Tok) × (Tok × Tok)) × (((Tok × Tok) × Tok) × (Tok × Tok))))) := ep P1 (by walk_at "ne")
@[irreducible] def e := z1.2.1.1.1.1.1.1
@[irreducible] def pos := z1.2.1.1.1.1.1.2
@[irreducible] def t1 := z1.2.1.1.2.1.1.2
@[irreducible] def ns := z1.2.1.1.2.1.2
@[irreducible] def nn := z1.2.1.1.2.2.1
@[irreducible] def n := z1.2.1.2.2.2.1
@[irreducible] def w := z1.1.w
@[irreducible] def m := z1.1.m
@[irreducible] def tk := z1.1.tk
def G2 : {P : Tok → Heap → Nat → Addr → Heap → Nat → Heap → Nat → Addr → Heap → Heap → Nat → Addr → Heap → Nat → LAO → (List Addr) → Nat → (List (Nat × List Int)) → Nat → Addr → Obj → Heap → Nat → LAO → (Option Value) → (Option Value) → (Option Value) → (Option Value) → (Option Value) → Addr → Addr → Tok → (List Value) → Nat → (List Int) → Heap → Heap → Heap → Nat → Addr → (List Value) → Heap → Heap → Prop // (∀ t8 h8 tk8 d9 h9 tk9 h10 tkx rs h11 h12 ξ9 el h13 tk13 ro1 as nel ents i I oI h ξ10 ro7 u1 u2 u3 u4 u5 ai T7 t7 ws xe xt ξ11 hB hC tk Dm wm hD hE, P t8 h8 tk8 d9 h9 tk9 h10 tkx rs h11 h12 ξ9 el h13 tk13 ro1 as nel ents i I oI h ξ10 ro7 u1 u2 u3 u4 u5 ai T7 t7 ws xe xt ξ11 hB hC tk Dm wm hD hE) → R1 z1 e pos t1 ns nn n w m tk} := ⟨_, by
  intro hh R K hp ret o0 o1 hx hcs hsc TB HE GV RL EN hnl hns T1 T2 hds SO hob S B F X N lt T hd hu st
  refine fillK (w := aWorld 0) ?_; k_fill; intro _ _
  w_strict (
    refine fillK (w := w) ?_; k_fill; intro _ _
    k_fold
    (try k_lt lt)
    k_steps)
  rename_i t8 h8 tk8 d9 h9 tk9 D9 h10 tkx rs h11 l11 h12 el h13 tk13 ro1 as F4 N4 off4 sb4 fr4 la4 ea4
  obtain ⟨nel, hel⟩ := la4
  generalize hents : (endD (e.au.rows (beginsAt e.cs pos)) (e.au.tags (beginsAt e.cs pos)) (List.drop pos e.cs) 0 pos).reverse = ents at *
  have hin : ∀ x ∈ ents, pos < x.1 ∧ x.1 ≤ e.cs.length ∧ ∀ n ∈ x.2, n = 0 ∨ n = 1 := by
    intro x hx9
    rw [← hents] at hx9
    have := endD_in (tag_two hob) x (List.mem_reverse.mp hx9)
    rw [List.length_drop] at this
    exact ⟨this.1, by lia, this.2.2.2⟩
  have hca : candAt e pos = candD e.cuts pos ents := by unfold candAt; rw [hents]
  rw [hca] at ret
  unfold Hold
  refine iterL (vs := as.map Value.ref) (nn := nel) (candJ e.cuts pos ents ro1 rs (up (Str.ofString "result") (some (.ref rs)) (up (Str.ofString "automaton") (some (.ref d9)) (fun y => List.lookup y [(Str.ofString "self", Value.ref e.sc), (Str.ofString "start", Value.int (↑pos) t1)].reverse))))
    rfl (fun i m nw hJ => by obtain ⟨r9, _, _, _, _, _, rfl, s9, _⟩ := hJ; exact .tail _ (s9 _ hel)) F4 N4 ⟨ro1, none, none, none, none, none, rfl, Sub.refl _, off4, rfl, by walk_at "same locals"⟩ ?turn ?done
  case' turn =>
    rintro i v m₁ nw I oI h tk hv ⟨ro7, u1, u2, u3, u4, u5, rfl, sub, off7, hc7, rfl⟩ offI F7 N7
    k_fold
    clear F4 N4
    obtain ⟨ai, x, rfl, hxi, T7, t7, hT7, ws, hws, hwi⟩ := (ea4.imp fun _ _ y => EndAt.sub y sub).at2 hv
    obtain ⟨xe, xt⟩ := x
    have hx7 := hin _ (List.mem_of_getElem? hxi)
    dsimp only [TupAt] at hT7 hws hwi hx7
    have hI : @Ne Nat I rs := Ne.symm (offI _ (.head _))
    have R7 := (R.sub sb4).sub sub
    have TB7 := R7.tb
    have GV7 := R7.gv
    have hsc7 := R7.sc
    have hds7 := sub _ (sb4 _ hds)
    have hnl7 := sub _ (sb4 _ hnl)
    have hT17 := sub _ (sb4 _ T1)
    have hT27 := sub _ (sb4 _ T2)
    have hnsl : ns.length = e.cs.length := by rw [hns.length, List.length_map]
    w_strict k_steps
  case' done =>
    rintro m₁ nw h tk ⟨ro7, u1, u2, u3, u4, u5, rfl, sub, off7, hc7, rfl⟩ F7 N7
    (try dsimp only)
    clear F4 N4
    w_strict k_steps
  rotate_left 1
  · rename_i hA hB hC Dm wm hD iL hC9 hL9 lm hE F8 N8
    have hwm : (wm.length : Int) = (xe : Int) - pos := by
      have h1 := iL.length
      rw [hC9, List.length_map] at h1
      exact wm_len h1 hx7.1 hx7.2.1
    clear hC9 hL9
    generalize hnw : (Dm, W.listOf wm.toArray 0) :: (I, oI) :: (rs, W.listOf #[] 0) :: ro7 = nw0 at *
    rename_i ξ3 ξ4 ξ5 ξ6 ξ7 ξ8 ξ9 ξ10 ξ11 ξ12
    clear ξ3 ξ4 ξ5 ξ6
    revert R K hp o0 o1 hx hcs hsc TB HE GV RL EN hnl hns T1 T2 hds SO hob S B X lt T hd hu st ξ7 ξ8 D9 l11 off4 sb4 fr4 hel ret hents ea4 hin hca sub off7 hc7 offI qk ek hv hws hxi hT7 hwi hx7 hI R7 TB7 GV7 hsc7 hds7 hnl7 hT17 hT27 hnsl ξ12 hA iL lm F8 hwm nw0 hnw N8
    apply (hh t8 h8 tk8 d9 h9 tk9 h10 tkx rs h11 h12 ξ9 el h13 tk13 ro1 as nel ents i I oI h ξ10 ro7 u1 u2 u3 u4 u5 ai T7 t7 ws xe xt ξ11 hB hC tk Dm wm hD hE)
  · dsimp only
    refine EndK.of (by assumption) (by assumption) ?_
    intro kF kN
    rw [List.length_map, ea4.length, List.drop_length] at hc7
    refine ret rs _ _ _ kF kN (fun p hp => .tail _ (sub _ (sb4 _ hp))) (fun p hp => Nat.ne_of_lt (l11 p hp)) ?_
    rw [← hc7]
    exact ⟨_, .head _⟩⟩
def R2 (ξ : ((((((Tok × Heap) × Nat) × ((Addr × Heap) × Nat)) × (((Heap × Nat) × Addr) × (Heap × Heap))) × ((((Nat × Addr) × Heap) × ((Nat × LAO) × (List Addr))) × (((Nat × (List (Nat × List Int))) × Nat) × (Addr × Obj)))) × (((((Heap × Nat) × LAO) × (((Option Value) × (Option Value)) × (Option Value))) × ((((Option Value) × (Option Value)) × Addr) × (Addr × Tok))) × (((((List Value) × Nat) × (List Int)) × ((Heap × Heap) × Heap)) × (((Nat × Addr) × (List Value)) × (Heap × Heap)))))) := fun d9 rs h ro7 u4 u5 T7 t7 ws xe xt Dm wm => G2.1 ξ.1.1.1.1.1.1 ξ.1.1.1.1.1.2 ξ.1.1.1.1.2 d9 ξ.1.1.1.2.1.2 ξ.1.1.1.2.2 ξ.1.1.2.1.1.1 ξ.1.1.2.1.1.2 rs ξ.1.1.2.2.1 ξ.1.1.2.2.2 ξ.1.2.1.1.1.1 ξ.1.2.1.1.1.2 ξ.1.2.1.1.2 ξ.1.2.1.2.1.1 ξ.1.2.1.2.1.2 ξ.1.2.1.2.2 ξ.1.2.2.1.1.1 ξ.1.2.2.1.1.2 ξ.1.2.2.1.2 ξ.1.2.2.2.1 ξ.1.2.2.2.2 h ξ.2.1.1.1.1.2 ro7 ξ.2.1.1.2.1.1 ξ.2.1.1.2.1.2 ξ.2.1.1.2.2 u4 u5 ξ.2.1.2.1.2 T7 t7 ws xe xt ξ.2.2.1.2.1.1 ξ.2.2.1.2.1.2 ξ.2.2.1.2.2 ξ.2.2.2.1.1.1 Dm wm ξ.2.2.2.2.1 ξ.2.2.2.2.2
def P2 (ξ : ((((((Tok × Heap) × Nat) × ((Addr × Heap) × Nat)) × (((Heap × Nat) × Addr) × (Heap × Heap))) × ((((Nat × Addr) × Heap) × ((Nat × LAO) × (List Addr))) × (((Nat × (List (Nat × List Int))) × Nat) × (Addr × Obj)))) × (((((Heap × Nat) × LAO) × (((Option Value) × (Option Value)) × (Option Value))) × ((((Option Value) × (Option Value)) × Addr) × (Addr × Tok))) × (((((List Value) × Nat) × (List Int)) × ((Heap × Heap) × Heap)) × (((Nat × Addr) × (List Value)) × (Heap × Heap)))))) : Prop := R2 ξ ξ.1.1.1.2.1.1 ξ.1.1.2.1.2 ξ.2.1.1.1.1.1 ξ.2.1.1.1.2 ξ.2.1.2.1.1.1 ξ.2.1.2.1.1.2 ξ.2.1.2.2.1 ξ.2.1.2.2.2 ξ.2.2.1.1.1.1 ξ.2.2.1.1.1.2 ξ.2.2.1.1.2 ξ.2.2.2.1.1.2 ξ.2.2.2.1.2
@[irreducible] def z2 : ((((((Tok × Heap) × Nat) × ((Addr × Heap) × Nat)) × (((Heap × Nat) × Addr) × (Heap × Heap))) × ((((Nat × Addr) × Heap) × ((Nat × LAO) × (List Addr))) × (((Nat × (List (Nat × List Int))) × Nat) × (Addr × Obj)))) × (((((Heap × Nat) × LAO) × (((Option Value) × (Option Value)) × (Option Value))) × ((((Option Value) × (Option Value)) × Addr) × (Addr × Tok))) × (((((List Value) × Nat) × (List Int)) × ((Heap × Heap) × Heap)) × (((Nat × Addr) × (List Value)) × (Heap × Heap))))) := ep P2 (by walk_at "ne")
@[irreducible] def d9 := z2.1.1.1.2.1.1
@[irreducible] def rs := z2.1.1.2.1.2
@[irreducible] def h := z2.2.1.1.1.1.1
@[irreducible] def ro7 := z2.2.1.1.1.2
@[irreducible] def u4 := z2.2.1.2.1.1.1
@[irreducible] def u5 := z2.2.1.2.1.1.2
@[irreducible] def T7 := z2.2.1.2.2.1
@[irreducible] def t7 := z2.2.1.2.2.2
@[irreducible] def ws := z2.2.2.1.1.1.1
@[irreducible] def xe := z2.2.2.1.1.1.2
@[irreducible] def xt := z2.2.2.1.1.2
@[irreducible] def Dm := z2.2.2.2.1.1.2
@[irreducible] def wm := z2.2.2.2.1.2
theorem m2 : R2 z2 d9 rs h ro7 u4 u5 T7 t7 ws xe xt Dm wm := by
  intro R K hp o0 o1 hx hcs hsc TB HE GV RL EN hnl hns T1 T2 hds SO hob S B X lt T hd hu st ξ7 ξ8 D9 l11 off4 sb4 fr4 hel ret hents ea4 hin hca sub off7 hc7 offI qk ek hv hws hxi hT7 hwi hx7 hI R7 TB7 GV7 hsc7 hds7 hnl7 hT17 hT27 hnsl ξ12 hA iL lm F8 hwm nw0 hnw N8
  refine fillK (w := aWorld 0) ?_; k_fill; intro _ _
  unfold Hold
  refine iterTk (vs := ws) (oT := { cls := Value.type "tuple", data := Data.seq ws.toArray }) (tryJ e.cuts pos xe xt (up (Str.ofString "matched") (some (.ref Dm)) (up (Str.ofString "tags") (some (.ref T7)) (up (Str.ofString "end") (some (.int xe t7)) (up (Str.ofString "result") (some (.ref rs)) (up (Str.ofString "automaton") (some (.ref d9)) (fun y => List.lookup y [(Str.ofString "self", Value.ref e.sc), (Str.ofString "start", Value.int (↑pos) t1)].reverse)))))))
    rfl F8 N8 (by rw [← hnw]; exact .tail _ (.tail _ (.tail _ hws))) (fun h hg => ⟨_, hg, rfl, _, rfl⟩) ⟨u4, u5, rfl, by walk_at "same locals"⟩ ?turn2 ?done2
  case' turn2 =>
    rintro j v m₁ I2 oI2 h2 tk2 hv2 ⟨u4, u5, hj, rfl⟩ off2 F9 N9
    k_fold
    obtain ⟨nv, tv, rfl, hnv2⟩ := IntsAre.at hwi j v hv2
    have hnv3 := hx7.2.2 nv (List.mem_of_getElem? hnv2)
    subst hnw
    clear F8 N8
    have hIr : @Ne Nat I2 rs := Ne.symm (off2 _ (.tail _ (.tail _ (.head _))))
    w_strict k_steps
  case' done2 =>
    rintro m₁ h2 tk2 ⟨u4, u5, hj, rfl⟩ F9 N9
    subst hnw
    (try dsimp only)
    clear F8 N8
    w_strict k_steps
  · rw [show ws.length = xt.length by exact hwi.length, List.drop_length] at hj
    refine TurnEnd.of ((rs, W.listOf #[] 0) :: (Dm, W.listOf wm.toArray 0) :: ro7) F9 N9 (by walk_at "sublist") (List.forall_mem_cons.mpr ⟨Ne.symm hI, List.forall_mem_cons.mpr ⟨(by k_ne), fun p hp => offI p (.tail _ hp)⟩⟩)
      ⟨(Dm, W.listOf wm.toArray 0) :: ro7, some (.int xe t7), some (.ref T7), some (.ref Dm), u4, u5, rfl, sub.cons, List.forall_mem_cons.mpr ⟨(by k_ne), off7⟩, ?_, rfl⟩
    rw [← hc7, cand_next hxi, ← hj]
    rfl
  · have ha : 0 < bodyOf (e.cuts nv).1 (e.cuts nv).2 wm.length := by assumption
    have hb : bodyOf (e.cuts nv).1 (e.cuts nv).2 wm.length ≤ (xe : Int) - pos := by assumption
    refine EndK.of (by assumption) (by assumption) ?_
    intro kF kN
    rw [hwm] at ha hb kN
    refine ret rs _ _ _ kF kN (fun p hp => .tail _ (.tail _ (.tail _ (.tail _ (.tail _ (sub _ (sb4 _ hp))))))) (fun p hp => Nat.ne_of_lt (l11 p hp)) ?_
    rw [← hc7, cand_next hxi, ← hj, try_hit hnv2 ha hb]
    exact ⟨_, _, _, ⟨_, .tail _ (.tail _ (.tail _ (.tail _ (.head _))))⟩, .head _⟩
  · have hb : ¬ bodyOf (e.cuts nv).1 (e.cuts nv).2 wm.length ≤ (xe : Int) - pos := by assumption
    rw [hwm] at hb
    refine TurnEnd.keep (by assumption) (by assumption) (by walk_at "sublist") off2 ⟨some (.int nv tv), some (.int _ _), ?_, by walk_at "same locals"⟩
    rw [← try_miss hnv2 (fun h => hb h.2)]
    exact hj
  · have hb : ¬ 0 < bodyOf (e.cuts nv).1 (e.cuts nv).2 wm.length := by assumption
    rw [hwm] at hb
    refine TurnEnd.keep (by assumption) (by assumption) (by walk_at "sublist") off2 ⟨some (.int nv tv), some (.int _ _), ?_, by walk_at "same locals"⟩
    rw [← try_miss hnv2 (fun h => hb h.1)]
    exact hj
theorem m1 : R1 z1 e pos t1 ns nn n w m tk := G2.2 (fun t8 h8 tk8 d9 h9 tk9 h10 tkx rs h11 h12 ξ9 el h13 tk13 ro1 as nel ents i I oI h ξ10 ro7 u1 u2 u3 u4 u5 ai T7 t7 ws xe xt ξ11 hB hC tk Dm wm hD hE => @ep_go _ P2 _ _ (by with_unfolding_all exact m2) ((((((t8, h8), tk8), ((d9, h9), tk9)), (((h10, tkx), rs), (h11, h12))), ((((ξ9, el), h13), ((tk13, ro1), as)), (((nel, ents), i), (I, oI)))), (((((h, ξ10), ro7), ((u1, u2), u3)), (((u4, u5), ai), (T7, t7))), ((((ws, xe), xt), ((ξ11, hB), hC)), (((tk, Dm), wm), (hD, hE))))) (by kernel_rfl))
end cand_ok
end
theorem cand_ok : cand_ok.St := cand_ok.G1.2 (fun e pos p0 began count ec kept t1 ns nn dt j1 j2 j3 j4 j5 j6 j7 j8 j9 n k1 k2 k3 k4 k5 k6 k7 k8 k9 k10 k11 k12 k13 k14 k15 y1 y2 y3 y4 y5 y6 y7 w h₀ L A m ro s Q E dp un gd outer A₀ base loose mean mg mb g L' h₁ tk => @ep_go _ cand_ok.P1 _ _ (by with_unfolding_all exact cand_ok.m1) ((⟨m, ro, Q, E, s, A, L, h₀, 0, w, dp, un, gd, outer, A₀, base, loose, mean, mg, mb, g, L', h₁, tk⟩ : Cx), ((((((e, pos), p0), ((began, count), ec)), (((kept, t1), ns), (nn, dt))), ((((j1, j2), j3), ((j4, j5), j6)), (((j7, j8), j9), (n, k1)))), (((((k2, k3), k4), ((k5, k6), k7)), (((k8, k9), k10), (k11, k12))), ((((k13, k14), k15), (y1, y2)), (((y3, y4), y5), (y6, y7)))))) (by kernel_rfl))
theorem try_in {cuts : Int → Bool × Int} {pos e : Nat} : ∀ {tg : List Int} {x : Int × Int}, tryD cuts pos e tg = some x → x.1 ∈ tg
  | [], x, h => nomatch h
  | n :: r, x, h => by
    unfold tryD at h
    split at h
    · cases h; exact .head _
    · exact .tail _ (try_in h)
theorem cand_in {cuts : Int → Bool × Int} {pos : Nat} : ∀ {l : List (Nat × List Int)} {x : Int × Int}, candD cuts pos l = some x → ∃ y ∈ l, x.1 ∈ y.2
  | [], x, h => nomatch h
  | y :: r, x, h => by
    unfold candD at h
    cases ht : tryD cuts pos y.1 y.2 with
    | none =>
      rw [ht] at h
      obtain ⟨z, hz, hx⟩ := cand_in (l := r) h
      exact ⟨z, .tail _ hz, hx⟩
    | some q =>
      rw [ht] at h
      cases h
      exact ⟨y, .head _, try_in ht⟩
theorem pick_cand {e : Env0} (K : EnvOk e) (pos : Nat) : pickD e.au e.cuts e.cs pos = (candAt e pos).getD (-1, (pos : Int) + 1) := choose_cand (K.ob pos) K.hcs
theorem cand_some {e : Env0} (K : EnvOk e) {pos : Nat} (hp : pos < e.cs.length) {x : Int × Int} (h : candAt e pos = some x) : (x.1 = 0 ∨ x.1 = 1) ∧ ∃ e' : Nat, x.2 = (e' : Int) ∧ pos < e' ∧ e' ≤ e.cs.length ∧ (x.1, (e' : Int)) = pickD e.au e.cuts e.cs pos := by
  have hpk := pick_cand K pos
  rw [h] at hpk
  have b := pick_bounds (cuts := e.cuts) K.o0 K.o1 hp
  rw [hpk] at b
  obtain ⟨y, hy, hx⟩ := cand_in h
  have hin := (endD_in (tag_two (K.ob pos)) y (List.mem_reverse.mp hy)).2.2.2 x.1 hx
  refine ⟨hin, x.2.toNat, ?_, ?_, ?_, ?_⟩
  · have := b.2.1; simp only [Option.getD_some] at this; lia
  · have := b.2.1; simp only [Option.getD_some] at this; lia
  · have := b.2.2; simp only [Option.getD_some] at this; lia
  · rw [hpk]; have := b.2.1; simp only [Option.getD_some] at this ⊢; exact Prod.ext rfl (by simp only; lia)
theorem list_ne_sc {w : World} {h₀ h : Heap} {L a d : Addr} {xs : Array Value} {n : Nat} {o : Obj} {sa : ScA} {cs : List Nat} {pos began : Nat} {count : Int} {ec : Str} {kept : Bool} {r : List (Addr × Obj)} (N : News h₀ L h r) (x : (a, W.listOf xs n) ∈ r) (y : (d, o) ∈ r) (SO : ScObj w o sa cs pos began count ec kept) : a ≠ d := fun e => by
  obtain ⟨k1, k2, k3, k4, k5, k6, k7, k8, k9, k10, k11, k12, k13, k14, k15, u1, u2, u3, u4, u5, u6, u7, rfl⟩ := SO
  have := congrArg Obj.cls (same_obj N (e ▸ x : (d, _) ∈ r) y)
  simp at this
theorem carve2_news {h₀ h : Heap} {L d t : Addr} {o o2 : Obj} {r : List (Addr × Obj)} (N : News h₀ L h r) (hm : (d, o) ∈ r) (ht : (t, o2) ∈ r) : News h₀ L h ((d, o) :: (t, o2) :: carve d (carve t r)) := fun p hp => by
  rcases List.mem_cons.mp hp with rfl | hp
  · exact N _ hm
  · rcases List.mem_cons.mp hp with rfl | hp
    · exact N _ ht
    · exact N _ (carve_sub (carve_sub hp))
/-- candidates, called with the scanner's dict and the list of turns, which stay to be written -/
theorem cand_two {w : World} {k : Nat} {h₀ : Heap} {L : Addr} {A : Around} {m : Str → Option Value} {ro : List (Addr × Obj)} {s : Shared} {e : Env0} {o : Obj} {tv : List Value} {nt : Nat} {pos p0 began : Nat} {count : Int} {ec : Str} {kept : Bool} {t1 : Tok} {Q E : Value → Shared → Prop}
    (S : Sit w (k + 4) h₀ L A) (F : Fr h₀ L s.heap m) (N : News h₀ L s.heap ((e.ds, o) :: (e.sa.tu, W.listOf tv.toArray nt) :: ro)) (off1 : ∀ p ∈ ro, p.1 ≠ e.ds) (off2 : ∀ p ∈ ro, p.1 ≠ e.sa.tu) (R : RoAt w ro e) (K : EnvOk e) (SO : ScObj w o e.sa e.cs p0 began count ec kept) (hp : pos < e.cs.length)
    (ret : ∀ r h' tk' ro', Fr h₀ L h' m → News h₀ L h' ((e.ds, o) :: (e.sa.tu, W.listOf tv.toArray nt) :: ro') → (∀ p ∈ ro', p.1 ≠ e.ds) → (∀ p ∈ ro', p.1 ≠ e.sa.tu) → Sub ro ro' → CandAt ro' r (candAt e pos) → Q (.ref r) { s with heap := h', toks := tk' }) :
    wpAny (MD w) A (call (.ref 459) [.ref e.sc, .int pos t1]) Q E s := by
  have sb : Sub ro ((e.ds, o) :: (e.sa.tu, W.listOf tv.toArray nt) :: ro) := (Sub.refl _).cons.cons
  refine cand_ok S F N (R.sub sb) K (.head _) SO hp fun r h' tk' r9 F9 N9 sb9 fr9 C9 => ?_
  have md := sb9 _ (.head _)
  have mt := sb9 _ (.tail _ (.head _))
  have ne1 : r ≠ e.ds := Ne.symm (fr9 _ (.head _))
  have ne2 : r ≠ e.sa.tu := Ne.symm (fr9 _ (.tail _ (.head _)))
  refine ret r h' tk' (carve e.ds (carve e.sa.tu r9)) F9 (carve2_news N9 md mt) carve_off (fun p hp => carve_off p (carve_sub hp)) (fun p hp => carve_mem (carve_mem (sb9 _ (sb p hp)) (off2 p hp)) (off1 p hp)) ?_
  cases hc : candAt e pos with
  | none =>
    rw [hc] at C9
    obtain ⟨n, hl⟩ := C9
    exact ⟨n, carve_mem (carve_mem hl ne2) ne1⟩
  | some x =>
    rw [hc] at C9
    obtain ⟨D, t1, t2, ⟨n, hl⟩, hD⟩ := C9
    exact ⟨D, t1, t2, ⟨n, carve_mem (carve_mem hl ne2) ne1⟩, carve_mem (carve_mem hD (tup_ne N9 hD mt)) (tup_ne_sc N9 hD md SO)⟩
/-- perform, the list of turns kept -/
theorem perf0_two {w : World} {k : Nat} {h₀ : Heap} {L : Addr} {A : Around} {m : Str → Option Value} {ro : List (Addr × Obj)} {s : Shared} {e : Env0} {o : Obj} {tv : List Value} {nt : Nat} {pos began : Nat} {count start : Int} {ec : Str} {kept : Bool} {t1 t2 : Tok} {Q E : Value → Shared → Prop}
    (S : Sit w (k + 5) h₀ L A) (F : Fr h₀ L s.heap m) (N : News h₀ L s.heap ((e.ds, o) :: (e.sa.tu, W.listOf tv.toArray nt) :: ro)) (off1 : ∀ p ∈ ro, p.1 ≠ e.ds) (off2 : ∀ p ∈ ro, p.1 ≠ e.sa.tu) (ne : e.sa.tu ≠ e.ds) (R : RoAt w ro e) (K : EnvOk e) (SO : ScObj w o e.sa e.cs pos began count ec kept) (hb : began ≤ pos) (hp : pos ≤ e.cs.length)
    (ret : ∀ r x h' tk' ro', Fr h₀ L h' m → News h₀ L h' ((e.ds, o) :: (e.sa.tu, W.listOf tv.toArray nt) :: ro') → (∀ p ∈ ro', p.1 ≠ e.ds) → (∀ p ∈ ro', p.1 ≠ e.sa.tu) → Sub ro ro' → TupAt ro' r [.bool false, .ref x] → TokObj w ro' x (Str.ofString "A") (partOf e.cs began pos) → Q (.ref r) { s with heap := h', toks := tk' }) :
    wpAny (MD w) A (call (.ref 423) [.ref e.sc, .int 0 t1, .int start t2]) Q E s := by
  refine perf0_ok S F N (List.forall_mem_cons.mpr ⟨ne, off1⟩) (R.sub (Sub.refl _).cons) K SO hb hp fun r x h' tk' r9 F9 N9 of9 sb9 T9 X9 => ?_
  have mt := sb9 _ (.head _)
  have N9' : News h₀ L h' r9 := PyProof.Rows.News.tail' N9
  refine ret r x h' tk' (carve e.sa.tu r9) F9 (fun p hp => ?_) (fun p hp => of9 p (carve_sub hp)) carve_off (fun p hp => carve_mem (sb9 _ (.tail _ hp)) (off2 p hp)) (carve_mem T9 (tup_ne N9' T9 mt)) (X9.carve_list N9' mt)
  rcases List.mem_cons.mp hp with rfl | hp
  · exact N9 _ (.head _)
  · exact carve_news N9' mt p hp
theorem perf1m_two {w : World} {k : Nat} {h₀ : Heap} {L : Addr} {A : Around} {m : Str → Option Value} {ro : List (Addr × Obj)} {s : Shared} {e : Env0} {o : Obj} {tv : List Value} {nt : Nat} {pos began : Nat} {count start : Int} {ec : Str} {kept : Bool} {t1 t2 : Tok} {Q E : Value → Shared → Prop}
    (S : Sit w (k + 5) h₀ L A) (F : Fr h₀ L s.heap m) (N : News h₀ L s.heap ((e.ds, o) :: (e.sa.tu, W.listOf tv.toArray nt) :: ro)) (off1 : ∀ p ∈ ro, p.1 ≠ e.ds) (off2 : ∀ p ∈ ro, p.1 ≠ e.sa.tu) (ne : e.sa.tu ≠ e.ds) (R : RoAt w ro e) (K : EnvOk e) (SO : ScObj w o e.sa e.cs pos began count ec kept) (hb : began ≤ pos) (hp : pos ≤ e.cs.length) (hec : ec.length ≤ 1000) (hm : e.more = true)
    (ret : ∀ r o' h' tk' ro', Fr h₀ L h' m → News h₀ L h' ((e.ds, o') :: (e.sa.tu, W.listOf tv.toArray nt) :: ro') → (∀ p ∈ ro', p.1 ≠ e.ds) → (∀ p ∈ ro', p.1 ≠ e.sa.tu) → Sub ro ro' → TupAt ro' r [.bool false, .none] → ScObj w o' e.sa e.cs pos began count ec true → Q (.ref r) { s with heap := h', toks := tk' }) :
    wpAny (MD w) A (call (.ref 423) [.ref e.sc, .int 1 t1, .int start t2]) Q E s := by
  refine perf1m_ok S F N (List.forall_mem_cons.mpr ⟨ne, off1⟩) (R.sub (Sub.refl _).cons) K SO hb hp hec hm fun r o' h' tk' r9 F9 N9 of9 sb9 T9 X9 => ?_
  have mt := sb9 _ (.head _)
  have N9' : News h₀ L h' r9 := PyProof.Rows.News.tail' N9
  refine ret r o' h' tk' (carve e.sa.tu r9) F9 (fun p hp => ?_) (fun p hp => of9 p (carve_sub hp)) carve_off (fun p hp => carve_mem (sb9 _ (.tail _ hp)) (off2 p hp)) (carve_mem T9 (tup_ne N9' T9 mt)) X9
  rcases List.mem_cons.mp hp with rfl | hp
  · exact N9 _ (.head _)
  · exact carve_news N9' mt p hp
theorem perf1e_two {w : World} {k : Nat} {h₀ : Heap} {L : Addr} {A : Around} {m : Str → Option Value} {ro : List (Addr × Obj)} {s : Shared} {e : Env0} {o : Obj} {tv : List Value} {nt : Nat} {pos began : Nat} {count start : Int} {ec : Str} {kept : Bool} {t1 t2 : Tok} {Q E : Value → Shared → Prop}
    (S : Sit w (k + 5) h₀ L A) (F : Fr h₀ L s.heap m) (N : News h₀ L s.heap ((e.ds, o) :: (e.sa.tu, W.listOf tv.toArray nt) :: ro)) (off1 : ∀ p ∈ ro, p.1 ≠ e.ds) (off2 : ∀ p ∈ ro, p.1 ≠ e.sa.tu) (ne : e.sa.tu ≠ e.ds) (R : RoAt w ro e) (K : EnvOk e) (SO : ScObj w o e.sa e.cs pos began count ec kept) (hb : began ≤ pos) (hp : pos ≤ e.cs.length) (hec : ec.length ≤ 1000) (hm : e.more = false)
    (ret : ∀ r o' h' tk' ro', Fr h₀ L h' m → News h₀ L h' ((e.ds, o') :: (e.sa.tu, W.listOf tv.toArray nt) :: ro') → (∀ p ∈ ro', p.1 ≠ e.ds) → (∀ p ∈ ro', p.1 ≠ e.sa.tu) → Sub ro ro' → TupAt ro' r [.bool false, .none] → ScObj w o' e.sa e.cs pos began count (ec ++ partOf e.cs began pos) kept → Q (.ref r) { s with heap := h', toks := tk' }) :
    wpAny (MD w) A (call (.ref 423) [.ref e.sc, .int 1 t1, .int start t2]) Q E s := by
  refine perf1e_ok S F N (List.forall_mem_cons.mpr ⟨ne, off1⟩) (R.sub (Sub.refl _).cons) K SO hb hp hec hm fun r o' h' tk' r9 F9 N9 of9 sb9 T9 X9 => ?_
  have mt := sb9 _ (.head _)
  have N9' : News h₀ L h' r9 := PyProof.Rows.News.tail' N9
  refine ret r o' h' tk' (carve e.sa.tu r9) F9 (fun p hp => ?_) (fun p hp => of9 p (carve_sub hp)) carve_off (fun p hp => carve_mem (sb9 _ (.tail _ hp)) (off2 p hp)) (carve_mem T9 (tup_ne N9' T9 mt)) X9
  rcases List.mem_cons.mp hp with rfl | hp
  · exact N9 _ (.head _)
  · exact carve_news N9' mt p hp
section
variable {prog : Program} {w : World} {A : Around} {E : Value → Shared → Prop} {s : Shared} {env : Env} {h₀ : Heap} {target : Expr} {body : List Stmt} {Q : Flow → Shared → Prop}
/-- a for over a list of one, whose turn leaves -/
theorem iterOne {l D : Addr} {nn : Nat} {m₀ : Str → Option Value} {nw₀ : List (Addr × Obj)} (hh : A.handled = none) (F : Fr h₀ env.locals s.heap m₀) (N : News h₀ env.locals s.heap nw₀) (hm : (l, W.listOf [Value.ref D].toArray nn) ∈ nw₀)
    (turn : ∀ I oI h tk, (∀ p ∈ nw₀, p.1 ≠ I) → Fr h₀ env.locals h m₀ → News h₀ env.locals h ((I, oI) :: nw₀) →
      wpAny (model prog w) A (assign target env (.ref D)) (fun _ s₃ => wpAny (model prog w) A (execs body env) (TurnPost h₀ env.locals I oI (fun _ _ => False) Q { s with heap := h, toks := tk }) E s₃) E { s with heap := h, toks := tk }) :
    wpAny (model prog w) A (pyIter (.ref l)) (fun it s₂ => TurnsAt prog w A h₀ env target body Q E it s₂) E s := by
  refine iterL (vs := [Value.ref D]) (nn := nn) (fun i m nw => i = 0 ∧ m = m₀ ∧ nw = nw₀) hh (fun i m nw hJ => by rw [hJ.2.2]; exact hm) F N ⟨rfl, rfl, rfl⟩ ?_ (fun m₁ nw h tk hJ => by cases hJ.1)
  rintro i v m₁ nw I oI h tk hv ⟨rfl, rfl, rfl⟩ offI F7 N7
  obtain rfl : v = .ref D := by simpa using hv.symm
  refine wpAny_mono (turn I oI h tk offI F7 N7) (fun _ s₃ h₃ => wpAny_mono h₃ (fun f s₄ h₄ => ?_) fun _ _ e => e) fun _ _ e => e
  cases f with
  | ret v => exact h₄
  | brk => exact h₄
  | next => obtain ⟨_, _, _, _, _, _, _, _, hF⟩ := h₄; exact hF.elim
  | cont => obtain ⟨_, _, _, _, _, _, _, _, hF⟩ := h₄; exact hF.elim
theorem iterNone {l : Addr} {nn : Nat} {m₀ : Str → Option Value} {nw₀ : List (Addr × Obj)} (hh : A.handled = none) (F : Fr h₀ env.locals s.heap m₀) (N : News h₀ env.locals s.heap nw₀) (hm : (l, W.listOf [].toArray nn) ∈ nw₀)
    (done : ∀ h tk, Fr h₀ env.locals h m₀ → News h₀ env.locals h nw₀ → Q .next { s with heap := h, toks := tk }) :
    wpAny (model prog w) A (pyIter (.ref l)) (fun it s₂ => TurnsAt prog w A h₀ env target body Q E it s₂) E s := by
  refine iterL (vs := []) (nn := nn) (fun i m nw => m = m₀ ∧ nw = nw₀) hh (fun i m nw hJ => by rw [hJ.2]; exact hm) F N ⟨rfl, rfl⟩ ?_ ?_
  · rintro i v m₁ nw I oI h tk hv
    cases hv
  · rintro m₁ nw h tk ⟨rfl, rfl⟩ F' N'
    exact done h tk F' N'
end
theorem part_le (cs : List Nat) (b e : Nat) (hx : cs.length ≤ 8) : (partOf cs b e).length ≤ 8 := by
  have h1 : (partOf cs b e).length ≤ (textOf cs).length := PySem.Txt.slice_le _ _ _
  have h2 : (textOf cs).length = cs.length := by simp [textOf, Str.length]
  lia
def echo1 (e : Env0) (ec : Str) (nb : Int) (f e' : Nat) : Str := if nb = 0 then ec else if nb < 0 ∨ e.more = false then ec ++ partOf e.cs f e' else ec
def keep1 (e : Env0) (nb : Int) : Bool := decide (nb = 1) && e.more
/-- what turn gives back: a token for rule 0, nothing for the others -/
def TurnRes (w : World) (ro : List (Addr × Obj)) (e : Env0) (nb : Int) (f e' : Nat) (v : Value) : Prop := (nb = 0 ∧ ∃ x, v = .ref x ∧ TokObj w ro x (Str.ofString "A") (partOf e.cs f e')) ∨ (nb ≠ 0 ∧ v = .none)
noncomputable section
namespace turn_ok
def St : Prop := ∀ {w : World} {k : Nat} {h₀ : Heap} {L : Addr} {A : Around} {m : Str → Option Value} {ro : List (Addr × Obj)} {s : Shared} {e : Env0} {o : Obj} {tv : List Value} {nt : Nat} {pos began : Nat} {count : Int} {ec : Str} {kept : Bool} {Q E : Value → Shared → Prop} (S : Sit w (k + 6) h₀ L A) (F : Fr h₀ L s.heap m) (N : News h₀ L s.heap ((e.ds, o) :: (e.sa.tu, W.listOf tv.toArray nt) :: ro)) (off1 : ∀ p ∈ ro, p.1 ≠ e.ds) (off2 : ∀ p ∈ ro, p.1 ≠ e.sa.tu) (ne : @Ne Nat e.sa.tu e.ds) (R : RoAt w ro e) (K : EnvOk e) (SO : ScObj w o e.sa e.cs pos began count ec kept) (hb : began ≤ pos) (hp : pos < e.cs.length) (hec : ec.length ≤ 900) (hc0 : 0 ≤ count) (hc : count ≤ 900) (htv : tv.length ≤ 900) (ret : ∀ (v : Value) (h' : Heap) (tk' : Nat) (ro' : List (Addr × Obj)) (o' : Obj) (n' : Nat) (D : Addr) (nb : Int) (e' : Nat), Fr h₀ L h' m → News h₀ L h' ((e.ds, o') :: (e.sa.tu, W.listOf (tv ++ [Value.ref D]).toArray n') :: ro') → (∀ p ∈ ro', p.1 ≠ e.ds) → (∀ p ∈ ro', p.1 ≠ e.sa.tu) → Sub ro ro' → (nb, ((e' : Nat) : Int)) = pickD e.au e.cuts e.cs pos → pos < e' → e' ≤ e.cs.length →
      TurnAt ro' D ⟨nb, if kept = true then began else pos, pos, e'⟩ → ScObj w o' e.sa e.cs e' (if kept = true then began else pos) (count + 1) (echo1 e ec nb (if kept = true then began else pos) e') (keep1 e nb) → TurnRes w ro' e nb (if kept = true then began else pos) e' v → Q v { s with heap := h', toks := tk' }),
    wpAny (MD w) A (call (.ref 409) [.ref e.sc]) Q E s
def G1 : {P : Env0 → (List Value) → Nat → Nat → Nat → Int → Str → Bool → (List Value) → Nat → Tok → Tok → Tok → Tok → Tok → Tok → Tok → Tok → Tok → Tok → Tok → Tok → Tok → Tok → Tok → Tok → Tok → Tok → Tok → Tok → Tok → Tok → World → Heap → Addr → Around → SOV → LAO → Shared → VSP → VSP → Nat → Nat → (Option (List Code)) → (List Env) → Around → Heap → (List Str) → EOV → SOV → SOV → Heap → Addr → Heap → Nat → Prop // (∀ e tv nt pos began count ec kept ns nn k1 k2 k3 k4 k5 k6 k7 k8 k9 k10 k11 k12 k13 k14 k15 u1 u2 u3 u4 u5 u6 u7 w h₀ L A m ro s Q E dp un gd outer A₀ base loose mean mg mb g L' h₁ tk, P e tv nt pos began count ec kept ns nn k1 k2 k3 k4 k5 k6 k7 k8 k9 k10 k11 k12 k13 k14 k15 u1 u2 u3 u4 u5 u6 u7 w h₀ L A m ro s Q E dp un gd outer A₀ base loose mean mg mb g L' h₁ tk) → St} := ⟨_, by
  intro hh w k h₀ L A m ro s e o tv nt pos began count ec kept Q E S F N off1 off2 ne R K SO hb hp hec hc0 hc htv ret
  refine lessK S ?_
  clear S k; intro S
  obtain ⟨o0, o1, hx, hcs⟩ := id K
  obtain ⟨hsc, TB, HE, GV, RL, EN, ns, nn, hnl, hns⟩ := id R
  have SO' := SO
  obtain ⟨k1, k2, k3, k4, k5, k6, k7, k8, k9, k10, k11, k12, k13, k14, k15, u1, u2, u3, u4, u5, u6, u7, rfl⟩ := SO'
  refine fillK (w := w) ?_; k_fill; intro _ _
  k_dflt (refine enter [(Str.ofString "self", _)] S F N (by k_is) (by k_is) (fun _ _ => BindsTo.of_eq rfl) (locs rfl) rfl rfl rfl (by decide) ?_)
  clear S F N
  intro dp un gd outer A₀ base loose mean mg mb g L' h₁ tk S B F X N lt T hd hu st
  rename_i ξ1 ξ2
  clear ξ1 ξ2
  revert off1 off2 ne R K hb hp hec hc0 hc htv ret o0 o1 hx hcs hsc TB HE GV RL EN hnl hns SO S B F X N lt T hd hu st
  exact hh e tv nt pos began count ec kept ns nn k1 k2 k3 k4 k5 k6 k7 k8 k9 k10 k11 k12 k13 k14 k15 u1 u2 u3 u4 u5 u6 u7 w h₀ L A m ro s Q E dp un gd outer A₀ base loose mean mg mb g L' h₁ tk⟩
def R1 (ξ : Cx × (((((Env0 × (List Value)) × (Nat × Nat)) × ((Nat × Int) × (Str × Bool))) × ((((List Value) × Nat) × (Tok × Tok)) × ((Tok × Tok) × (Tok × Tok)))) × ((((Tok × Tok) × (Tok × Tok)) × ((Tok × Tok) × (Tok × Tok))) × (((Tok × Tok) × (Tok × Tok)) × ((Tok × Tok) × (Tok × Tok)))))) := fun e tv nt pos began count ec kept w ro => G1.1 e tv nt pos began count ec kept ξ.2.1.2.1.1.1 ξ.2.1.2.1.1.2 ξ.2.1.2.1.2.1 ξ.2.1.2.1.2.2 ξ.2.1.2.2.1.1 ξ.2.1.2.2.1.2 ξ.2.1.2.2.2.1 ξ.2.1.2.2.2.2 ξ.2.2.1.1.1.1 ξ.2.2.1.1.1.2 ξ.2.2.1.1.2.1 ξ.2.2.1.1.2.2 ξ.2.2.1.2.1.1 ξ.2.2.1.2.1.2 ξ.2.2.1.2.2.1 ξ.2.2.1.2.2.2 ξ.2.2.2.1.1.1 ξ.2.2.2.1.1.2 ξ.2.2.2.1.2.1 ξ.2.2.2.1.2.2 ξ.2.2.2.2.1.1 ξ.2.2.2.2.1.2 ξ.2.2.2.2.2.1 ξ.2.2.2.2.2.2 w ξ.1.h₀ ξ.1.L ξ.1.A ξ.1.m ro ξ.1.s ξ.1.Q ξ.1.E ξ.1.dp ξ.1.un ξ.1.gd ξ.1.outer ξ.1.A₀ ξ.1.base ξ.1.loose ξ.1.mean ξ.1.mg ξ.1.mb ξ.1.g ξ.1.L' ξ.1.h₁ ξ.1.tk
def P1 (ξ : Cx × (((((Env0 × (List Value)) × (Nat × Nat)) × ((Nat × Int) × (Str × Bool))) × ((((List Value) × Nat) × (Tok × Tok)) × ((Tok × Tok) × (Tok × Tok)))) × ((((Tok × Tok) × (Tok × Tok)) × ((Tok × Tok) × (Tok × Tok))) × (((Tok × Tok) × (Tok × Tok)) × ((Tok × Tok) × (Tok × Tok)))))) : Prop := R1 ξ ξ.2.1.1.1.1.1 ξ.2.1.1.1.1.2 ξ.2.1.1.1.2.1 ξ.2.1.1.1.2.2 ξ.2.1.1.2.1.1 ξ.2.1.1.2.1.2 ξ.2.1.1.2.2.1 ξ.2.1.1.2.2.2 ξ.1.w ξ.1.ro
@[irreducible] def z1 : Cx × (((((Env0 × (List Value)) × (Nat × Nat)) × ((Nat × Int) × (Str × Bool))) × ((((List Value) × Nat) × (Tok × Tok)) × ((Tok × Tok) × (Tok × Tok)))) × ((((Tok × Tok) × (Tok × Tok)) × ((Tok × Tok) × (Tok × Tok))) × (((Tok × Tok) × (Tok × Tok)) × ((Tok × Tok) × (Tok × Tok))))) := ep P1 (by walk_at "ne")
@[irreducible] def e := z1.2.1.1.1.1.1
@[irreducible] def tv := z1.2.1.1.1.1.2
@[irreducible] def nt := z1.2.1.1.1.2.1
@[irreducible] def pos := z1.2.1.1.1.2.2
@[irreducible] def began := z1.2.1.1.2.1.1
@[irreducible] def count := z1.2.1.1.2.1.2
@[irreducible] def ec := z1.2.1.1.2.2.1
@[irreducible] def kept := z1.2.1.1.2.2.2
@[irreducible] def w := z1.1.w
@[irreducible] def ro := z1.1.ro
def G2 : {P : Nat → Heap → Nat → Nat → Tok → Tok → Tok → Tok → Tok → Tok → Tok → Tok → Tok → Tok → Tok → Tok → Tok → Tok → Tok → Tok → Tok → Tok → Tok → Tok → Tok → Tok → Heap → Addr → Heap → Nat → LAO → Prop // (∀ tk h2 tk2 f q1 q2 q3 q4 q5 q6 q7 q8 q9 q10 q11 q12 q13 q14 q15 z1 z2 z3 z4 z5 z6 z7 ξ7 rl h3 tk3 ro3, P tk h2 tk2 f q1 q2 q3 q4 q5 q6 q7 q8 q9 q10 q11 q12 q13 q14 q15 z1 z2 z3 z4 z5 z6 z7 ξ7 rl h3 tk3 ro3) → R1 z1 e tv nt pos began count ec kept w ro} := ⟨_, by
  intro hh off1 off2 ne R K hb hp hec hc0 hc htv ret o0 o1 hx hcs hsc TB HE GV RL EN hnl hns SO S B F X N lt T hd hu st
  refine fillK (w := aWorld 0) ?_; k_fill; intro _ _
  w_strict (
    refine fillK (w := w) ?_; k_fill; intro _ _
    k_fold
    k_steps)
  k_dflt (refine openm_ok (k := 0) (by walk_at "xS") (by k_asm) (by k_asm) (List.forall_mem_cons.mpr ⟨ne, off1⟩) (.tail _ hsc) SO hc0 (by lia) ?_)
  intro o2 h2 tk2 F2 N2 SO2
  have hf : (if kept = true then began else pos) ≤ pos := by split <;> lia
  generalize hfe : (if kept = true then began else pos) = f at *
  have SO2' := SO2
  obtain ⟨q1, q2, q3, q4, q5, q6, q7, q8, q9, q10, q11, q12, q13, q14, q15, z1, z2, z3, z4, z5, z6, z7, rfl⟩ := SO2'
  k_sweep
  w_strict k_steps
  k_dflt (refine cand_two (k := 0) (by walk_at "xS") (by k_asm) (by k_asm) off1 off2 R K SO2 hp ?_)
  intro rl h3 tk3 ro3 F3 N3 off13 off23 sb3 C3
  k_sweep
  rename_i ξ3 ξ4 ξ5 ξ6 ξ7
  clear ξ3 ξ4 ξ5 ξ6
  revert off1 off2 ne R K hb hp hec hc0 hc htv o0 o1 hx hcs hsc TB HE GV RL EN hnl hns SO S B X lt T hd hu st qk ek hfe ret hf SO2 F3 N3 off13 off23 sb3 C3
  exact hh tk h2 tk2 f q1 q2 q3 q4 q5 q6 q7 q8 q9 q10 q11 q12 q13 q14 q15 z1 z2 z3 z4 z5 z6 z7 ξ7 rl h3 tk3 ro3⟩
def R2 (ξ : (((((Nat × Heap) × (Nat × Nat)) × ((Tok × Tok) × (Tok × Tok))) × (((Tok × Tok) × (Tok × Tok)) × ((Tok × Tok) × (Tok × Tok)))) × ((((Tok × Tok) × (Tok × Tok)) × ((Tok × Tok) × (Tok × Tok))) × (((Tok × Tok) × (Heap × Addr)) × ((Heap × Nat) × LAO))))) := fun f ro3 => G2.1 ξ.1.1.1.1.1 ξ.1.1.1.1.2 ξ.1.1.1.2.1 f ξ.1.1.2.1.1 ξ.1.1.2.1.2 ξ.1.1.2.2.1 ξ.1.1.2.2.2 ξ.1.2.1.1.1 ξ.1.2.1.1.2 ξ.1.2.1.2.1 ξ.1.2.1.2.2 ξ.1.2.2.1.1 ξ.1.2.2.1.2 ξ.1.2.2.2.1 ξ.1.2.2.2.2 ξ.2.1.1.1.1 ξ.2.1.1.1.2 ξ.2.1.1.2.1 ξ.2.1.1.2.2 ξ.2.1.2.1.1 ξ.2.1.2.1.2 ξ.2.1.2.2.1 ξ.2.1.2.2.2 ξ.2.2.1.1.1 ξ.2.2.1.1.2 ξ.2.2.1.2.1 ξ.2.2.1.2.2 ξ.2.2.2.1.1 ξ.2.2.2.1.2 ro3
def P2 (ξ : (((((Nat × Heap) × (Nat × Nat)) × ((Tok × Tok) × (Tok × Tok))) × (((Tok × Tok) × (Tok × Tok)) × ((Tok × Tok) × (Tok × Tok)))) × ((((Tok × Tok) × (Tok × Tok)) × ((Tok × Tok) × (Tok × Tok))) × (((Tok × Tok) × (Heap × Addr)) × ((Heap × Nat) × LAO))))) : Prop := R2 ξ ξ.1.1.1.2.2 ξ.2.2.2.2
@[irreducible] def z2 : (((((Nat × Heap) × (Nat × Nat)) × ((Tok × Tok) × (Tok × Tok))) × (((Tok × Tok) × (Tok × Tok)) × ((Tok × Tok) × (Tok × Tok)))) × ((((Tok × Tok) × (Tok × Tok)) × ((Tok × Tok) × (Tok × Tok))) × (((Tok × Tok) × (Heap × Addr)) × ((Heap × Nat) × LAO)))) := ep P2 (by walk_at "ne")
@[irreducible] def f := z2.1.1.1.2.2
@[irreducible] def ro3 := z2.2.2.2.2
theorem m2 : R2 z2 f ro3 := by
  intro off1 off2 ne R K hb hp hec hc0 hc htv o0 o1 hx hcs hsc TB HE GV RL EN hnl hns SO S B X lt T hd hu st qk ek hfe ret hf SO2 F3 N3 off13 off23 sb3 C3
  refine fillK (w := aWorld 0) ?_; k_fill; intro _ _
  cases hq : candAt e pos with
  | none =>
    rw [hq] at C3
    obtain ⟨nl3, hl3⟩ := C3
    have hpk := pick_cand K pos
    rw [hq] at hpk
    refine iterNone rfl (by assumption) (by assumption) (.tail _ (.tail _ hl3)) ?_
    intro h4 tk4 F4 N4
    have hsc3 := sb3 _ hsc
    clear F3 N3
    dsimp only [en] at N4
    try dsimp only
    have hof : ∀ p ∈ (e.sa.tu, W.listOf tv.toArray nt) :: ro3, p.1 ≠ e.ds := List.forall_mem_cons.mpr ⟨ne, off13⟩
    w_strict k_steps
    k_dflt (refine yytext_ok (k := 0) (a := e.sa) (cs := e.cs) (pos := pos + 1) (began := f) (count := count + 1) (ec := ec) (kept := false) (by walk_at "xS") (by k_asm) (by k_asm) (.tail _ (.tail _ hsc3)) (.head _) ⟨_, _, _, _, _, _, _, _, _, _, _, _, _, _, _, _, _, _, _, _, _, _, rfl⟩ hx (by lia) (by lia) ?_)
    intro t5 h5 tk5 F5 N5
    have hpl := part_le e.cs f (pos + 1) hx
    dsimp only [en] at N5
    k_sweep
    w_strict k_steps
    rename_i D9 h9 l9 h10 F9 N9
    have l91 : @LT.lt Nat _ e.ds D9 := l9.1
    have l92 : @LT.lt Nat _ e.sa.tu D9 := l9.2.1
    have he : echo1 e ec (-1) f (pos + 1) = ec ++ partOf e.cs f (pos + 1) := by unfold echo1; rw [if_neg (by decide), if_pos (.inl (by decide))]
    have hk : keep1 e (-1) = false := by simp [keep1]
    (try dsimp only)
    refine EndK.of F9 N9 ?_
    intro kF kN
    refine ret .none _ _ ((D9, _) :: ro3) _ _ D9 (-1) (pos + 1) kF (PyProof.Rows.News.perm kN (by walk_at "sublist")) (List.forall_mem_cons.mpr ⟨neN (Nat.ne_of_gt l91), off13⟩) (List.forall_mem_cons.mpr ⟨neN (Nat.ne_of_gt l92), off23⟩) sb3.cons (by rw [hpk]; rfl) (by lia) (by lia) ⟨_, _, _, .head _⟩ ?_ (.inr ⟨by decide, rfl⟩)
    rw [he, hk]
    exact ⟨_, _, _, _, _, _, _, _, _, _, _, _, _, _, _, _, _, _, _, _, _, _, rfl⟩
  | some x =>
    obtain ⟨hx01, e', hxe, hpe, hel, hpk⟩ := cand_some K hp hq
    rw [hq] at C3
    obtain ⟨x1, x2⟩ := x
    dsimp only at hx01 hxe hpk
    subst hxe
    obtain ⟨D, d1, d2, ⟨nl3, hl3⟩, hD⟩ := C3
    dsimp only [TupAt] at hD
    refine iterOne rfl (by assumption) (by assumption) (.tail _ (.tail _ hl3)) ?_
    intro I oI h4 tk4 offI F4 N4
    have hsc3 := sb3 _ hsc
    clear F3 N3
    have hI1 : @Ne Nat I e.ds := Ne.symm (offI _ (.head _))
    have hI2 : @Ne Nat I e.sa.tu := Ne.symm (offI _ (.tail _ (.head _)))
    dsimp only [en] at N4
    try dsimp only
    w_strict k_steps
    have R3 := R.sub sb3
    have ne' : e.sa.tu ≠ e.ds := ne
    have offI3 : ∀ p ∈ ro3, p.1 ≠ I := fun p hp => offI p (.tail _ (.tail _ hp))
    rcases hx01 with h01 | h01
    · subst h01
      k_dflt (refine perf0_two (k := 0) (ro := (I, oI) :: ro3) (pos := e') (began := f) (count := count + 1) (ec := ec) (kept := false) (by walk_at "xS") (by k_asm) (PyProof.Rows.News.perm (by k_asm) (by walk_at "sublist")) (List.forall_mem_cons.mpr ⟨hI1, off13⟩) (List.forall_mem_cons.mpr ⟨hI2, off23⟩) ne' (R3.sub (Sub.refl _).cons) K ⟨_, _, _, _, _, _, _, _, _, _, _, _, _, _, _, _, _, _, _, _, _, _, rfl⟩ (by lia) hel ?_)
      intro r5 x5 h5 tk5 ro5 F5 N5 of15 of25 sb5 T5 X5
      dsimp only [TupAt] at T5
      have hsc5 := sb5 _ (.tail _ hsc3)
      dsimp only [en] at N5
      k_sweep
      w_strict k_steps
      rename_i D9 h9 l9 h10 F9 N9
      have l91 : @LT.lt Nat _ e.ds D9 := l9.1
      have l92 : @LT.lt Nat _ e.sa.tu D9 := l9.2.1
      have he : echo1 e ec 0 f e' = ec := by unfold echo1; rw [if_pos rfl]
      have hk : keep1 e 0 = false := by simp [keep1]
      try dsimp only
      refine EndK.of F9 N9 ?_
      intro kF kN
      refine ret (.ref x5) _ _ ((D9, _) :: ro5) _ _ D9 0 e' kF (PyProof.Rows.News.perm kN (by walk_at "sublist")) (List.forall_mem_cons.mpr ⟨neN (Nat.ne_of_gt l91), of15⟩) (List.forall_mem_cons.mpr ⟨neN (Nat.ne_of_gt l92), of25⟩) (fun p hp => .tail _ (sb5 _ (.tail _ (sb3 _ hp)))) hpk hpe hel ⟨_, _, _, .head _⟩ ?_ (.inl ⟨rfl, x5, rfl, X5.sub (Sub.refl _).cons⟩)
      rw [he, hk]
      exact ⟨_, _, _, _, _, _, _, _, _, _, _, _, _, _, _, _, _, _, _, _, _, _, rfl⟩
    · subst h01
      rcases Bool.eq_false_or_eq_true e.more with hmo | hmo
      · k_dflt (refine perf1m_two (k := 0) (ro := (I, oI) :: ro3) (pos := e') (began := f) (count := count + 1) (ec := ec) (kept := false) (by walk_at "xS") (by k_asm) (PyProof.Rows.News.perm (by k_asm) (by walk_at "sublist")) (List.forall_mem_cons.mpr ⟨hI1, off13⟩) (List.forall_mem_cons.mpr ⟨hI2, off23⟩) ne' (R3.sub (Sub.refl _).cons) K ⟨_, _, _, _, _, _, _, _, _, _, _, _, _, _, _, _, _, _, _, _, _, _, rfl⟩ (by lia) hel (by lia) hmo ?_)
        intro r5 o5 h5 tk5 ro5 F5 N5 of15 of25 sb5 T5 X5
        dsimp only [TupAt] at T5
        have hsc5 := sb5 _ (.tail _ hsc3)
        obtain ⟨g1, g2, g3, g4, g5, g6, g7, g8, g9, g10, g11, g12, g13, g14, g15, y1, y2, y3, y4, y5, y6, y7, rfl⟩ := X5
        dsimp only [en] at N5
        k_sweep
        w_strict k_steps
        rename_i D9 h9 l9 h10 F9 N9
        have l91 : @LT.lt Nat _ e.ds D9 := l9.1
        have l92 : @LT.lt Nat _ e.sa.tu D9 := l9.2.1
        have he : echo1 e ec 1 f e' = ec := by unfold echo1; rw [if_neg (by decide), if_neg (fun h => h.elim (by decide) (fun h => by rw [hmo] at h; cases h))]
        have hk : keep1 e 1 = true := by simp [keep1, hmo]
        try dsimp only
        refine EndK.of F9 N9 ?_
        intro kF kN
        refine ret .none _ _ ((D9, _) :: ro5) _ _ D9 1 e' kF (PyProof.Rows.News.perm kN (by walk_at "sublist")) (List.forall_mem_cons.mpr ⟨neN (Nat.ne_of_gt l91), of15⟩) (List.forall_mem_cons.mpr ⟨neN (Nat.ne_of_gt l92), of25⟩) (fun p hp => .tail _ (sb5 _ (.tail _ (sb3 _ hp)))) hpk hpe hel ⟨_, _, _, .head _⟩ ?_ (.inr ⟨by decide, rfl⟩)
        rw [he, hk]
        exact ⟨_, _, _, _, _, _, _, _, _, _, _, _, _, _, _, _, _, _, _, _, _, _, rfl⟩
      · k_dflt (refine perf1e_two (k := 0) (ro := (I, oI) :: ro3) (pos := e') (began := f) (count := count + 1) (ec := ec) (kept := false) (by walk_at "xS") (by k_asm) (PyProof.Rows.News.perm (by k_asm) (by walk_at "sublist")) (List.forall_mem_cons.mpr ⟨hI1, off13⟩) (List.forall_mem_cons.mpr ⟨hI2, off23⟩) ne' (R3.sub (Sub.refl _).cons) K ⟨_, _, _, _, _, _, _, _, _, _, _, _, _, _, _, _, _, _, _, _, _, _, rfl⟩ (by lia) hel (by lia) hmo ?_)
        intro r5 o5 h5 tk5 ro5 F5 N5 of15 of25 sb5 T5 X5
        dsimp only [TupAt] at T5
        have hsc5 := sb5 _ (.tail _ hsc3)
        obtain ⟨g1, g2, g3, g4, g5, g6, g7, g8, g9, g10, g11, g12, g13, g14, g15, y1, y2, y3, y4, y5, y6, y7, rfl⟩ := X5
        dsimp only [en] at N5
        k_sweep
        w_strict k_steps
        rename_i D9 h9 l9 h10 F9 N9
        have l91 : @LT.lt Nat _ e.ds D9 := l9.1
        have l92 : @LT.lt Nat _ e.sa.tu D9 := l9.2.1
        have he : echo1 e ec 1 f e' = ec ++ partOf e.cs f e' := by unfold echo1; rw [if_neg (by decide), if_pos (.inr hmo)]
        have hk : keep1 e 1 = false := by simp [keep1, hmo]
        try dsimp only
        refine EndK.of F9 N9 ?_
        intro kF kN
        refine ret .none _ _ ((D9, _) :: ro5) _ _ D9 1 e' kF (PyProof.Rows.News.perm kN (by walk_at "sublist")) (List.forall_mem_cons.mpr ⟨neN (Nat.ne_of_gt l91), of15⟩) (List.forall_mem_cons.mpr ⟨neN (Nat.ne_of_gt l92), of25⟩) (fun p hp => .tail _ (sb5 _ (.tail _ (sb3 _ hp)))) hpk hpe hel ⟨_, _, _, .head _⟩ ?_ (.inr ⟨by decide, rfl⟩)
        rw [he, hk]
        exact ⟨_, _, _, _, _, _, _, _, _, _, _, _, _, _, _, _, _, _, _, _, _, _, rfl⟩
theorem m1 : R1 z1 e tv nt pos began count ec kept w ro := G2.2 (fun tk h2 tk2 f q1 q2 q3 q4 q5 q6 q7 q8 q9 q10 q11 q12 q13 q14 q15 z1 z2 z3 z4 z5 z6 z7 ξ7 rl h3 tk3 ro3 => @ep_go _ P2 _ _ (by with_unfolding_all exact m2) (((((tk, h2), (tk2, f)), ((q1, q2), (q3, q4))), (((q5, q6), (q7, q8)), ((q9, q10), (q11, q12)))), ((((q13, q14), (q15, z1)), ((z2, z3), (z4, z5))), (((z6, z7), (ξ7, rl)), ((h3, tk3), ro3)))) (by kernel_rfl))
end turn_ok
end
theorem turn_ok : turn_ok.St := turn_ok.G1.2 (fun e tv nt pos began count ec kept ns nn k1 k2 k3 k4 k5 k6 k7 k8 k9 k10 k11 k12 k13 k14 k15 u1 u2 u3 u4 u5 u6 u7 w h₀ L A m ro s Q E dp un gd outer A₀ base loose mean mg mb g L' h₁ tk => @ep_go _ turn_ok.P1 _ _ (by with_unfolding_all exact turn_ok.m1) ((⟨m, ro, Q, E, s, A, L, h₀, 0, w, dp, un, gd, outer, A₀, base, loose, mean, mg, mb, g, L', h₁, tk⟩ : Cx), (((((e, tv), (nt, pos)), ((began, count), (ec, kept))), (((ns, nn), (k1, k2)), ((k3, k4), (k5, k6)))), ((((k7, k8), (k9, k10)), ((k11, k12), (k13, k14))), (((k15, u1), (u2, u3)), ((u4, u5), (u6, u7)))))) (by kernel_rfl))
section
variable {prog : Program} {w : World} {A : Around} {E : Value → Shared → Prop} {s : Shared} {h₀ : Heap} {L d : Addr} {news : List (Addr × Obj)} {o : Obj} {kvs : List (Int × Value)} {k : Int} {t : Tok} {v dflt : Value}
theorem getm_D {pl : Sem Bool} {Q : Value × List Value → Shared → Prop} (N : News h₀ L s.heap news) (hd : o.IsDictOf (PySem.intKind prog w) kvs) (hp : (d, o) ∈ news) (h : Q (.builtin "dict.get", [.ref d]) s) :
    wpAny (model prog w) A (getMethod (.ref d) (Str.ofString "get") pl) Q E s := kob_method PySem.F.slot_dict_get PySem.F.type_dict_get N hp hd h
theorem get_D {Q : Value → Shared → Prop} (N : News h₀ L s.heap news) (hd : o.IsDictOf (PySem.intKind prog w) kvs) (hp : (d, o) ∈ news) (lo : (d == sysModules) = false) (h : Q ((valueAt kvs k).getD dflt) { s with toks := s.toks + 1 }) :
    wpAny (model prog w) A (call (.builtin "dict.get") [.ref d, .int k t, dflt]) Q E s :=
  have hD := kda_dict N hp hd
  call_meetsIn PySem.F.slot_dict_get hD.typeIs PySem.F.entry_dict_get (PySem.F.args_dict_get_3 _ _ _) (meets_dict_get_default _ d (intKind_is _ _ _ _) lo dflt) ⟨_, hD.mapOf, h⟩
end
local macro_rules | `(tactic| walk_at "getMethod ref") => pure (κtC (κap `getMethod [κgr, (κap `PySem.Str.ofString [(κsl "get")]), κh_]) (κtA `getm_D [κqa, κqb, κqm, κq0]))
local macro_rules | `(tactic| walk_at "call builtin:dict.get") => pure (κtA `get_D [κqa, κqb, κqm, κqb, κq0])
theorem tend_ok {w : World} {k : Nat} {h₀ : Heap} {L : Addr} {A : Around} {m : Str → Option Value} {ro : List (Addr × Obj)} {s : Shared} {tb : Addr} {ta : TabA} {c : Int} {t1 : Tok} {Q E : Value → Shared → Prop}
    (S : Sit w (k + 1) h₀ L A) (F : Fr h₀ L s.heap m) (N : News h₀ L s.heap ro) (TB : TablesAt w ro tb ta) (EN : DAt w ro ta.ends [])
    (ret : ∀ t h' tk', Fr h₀ L h' m → News h₀ L h' ro → Q (.int (-1) t) { s with heap := h', toks := tk' }) :
    wpAny (MD w) A (call (.ref 269) [.ref tb, .int c t1]) Q E s := by
  obtain ⟨dt, j1, j2, j3, j4, j5, j6, j7, j8, j9, n, T1, T2⟩ := TB
  obtain ⟨oe, he1, he2, he3⟩ := EN
  w_strict (
    refine fillK (w := w) ?_; k_fill; intro _ _
    k_dflt (refine enter [(Str.ofString "self", _), (Str.ofString "condition", _)] S F N (by k_is) (by k_is) (fun _ _ => BindsTo.of_eq rfl) (locs rfl) rfl rfl rfl (by decide) ?_)
    clear S F N
    intro dp un gd outer A₀ base loose mean mg mb g L' h₁ tk S B F X N lt T hd hu st
    k_fold
    k_steps)
  try dsimp only
  refine EndK.of (by assumption) (by assumption) ?_
  intro kF kN
  exact ret _ _ _ kF kN
local macro_rules | `(tactic| walk_at "call ref") => pure (κtB `tend_ok [κqb, κqb])
theorem end_ok {w : World} {k : Nat} {h₀ : Heap} {L : Addr} {A : Around} {m : Str → Option Value} {ro : List (Addr × Obj)} {s : Shared} {sc ds : Addr} {o : Obj} {a : ScA} {cs : List Nat} {pos began : Nat} {count : Int} {ec : Str} {kept : Bool} {ta : TabA} {c : Int} {t1 : Tok} {Q E : Value → Shared → Prop}
    (S : Sit w (k + 2) h₀ L A) (F : Fr h₀ L s.heap m) (N : News h₀ L s.heap ro) (hsc : (sc, instObj 476 ds) ∈ ro) (hds : (ds, o) ∈ ro) (SO : ScObj w o a cs pos began count ec kept) (TB : TablesAt w ro a.tb ta) (EN : DAt w ro ta.ends [])
    (ret : ∀ t h' tk', Fr h₀ L h' m → News h₀ L h' ro → Q (.int (-1) t) { s with heap := h', toks := tk' }) :
    wpAny (MD w) A (call (.ref 473) [.ref sc, .int c t1]) Q E s := by
  obtain ⟨k1, k2, k3, k4, k5, k6, k7, k8, k9, k10, k11, k12, k13, k14, k15, u1, u2, u3, u4, u5, u6, u7, rfl⟩ := SO
  have TB' := TB
  obtain ⟨dt, j1, j2, j3, j4, j5, j6, j7, j8, j9, n, T1, T2⟩ := TB'
  w_strict (
    refine fillK (w := w) ?_; k_fill; intro _ _
    k_dflt (refine enter [(Str.ofString "self", _), (Str.ofString "condition", _)] S F N (by k_is) (by k_is) (fun _ _ => BindsTo.of_eq rfl) (locs rfl) rfl rfl rfl (by decide) ?_)
    clear S F N
    intro dp un gd outer A₀ base loose mean mg mb g L' h₁ tk S B F X N lt T hd hu st
    k_fold
    k_steps)
  try dsimp only
  refine EndK.of (by assumption) (by assumption) ?_
  intro kF kN
  exact ret _ _ _ kF kN
theorem endtok_ok {w : World} {k : Nat} {h₀ : Heap} {L : Addr} {A : Around} {m : Str → Option Value} {ro : List (Addr × Obj)} {s : Shared} {cs : List Nat} {tx : Tok} {Q E : Value → Shared → Prop}
    (S : Sit w (k + 4) h₀ L A) (F : Fr h₀ L s.heap m) (N : News h₀ L s.heap ro) (hx : cs.length ≤ 8)
    (ret : ∀ x h' tk' ro', Fr h₀ L h' m → News h₀ L h' ro' → Sub ro ro' → TokObj w ro' x (Str.ofString "$end") (Str.ofString "") → Q (.ref x) { s with heap := h', toks := tk' }) :
    wpAny (MD w) A (call (.ref 151) [.str (textOf cs) tx]) Q E s := by
  have hlen : (textOf cs).length = cs.length := by simp [textOf, Str.length]
  w_strict (
    refine fillK (w := w) ?_; k_fill; intro _ _
    k_dflt (refine enter [(Str.ofString "text", _)] S F N (by k_is) (by k_is) (fun _ _ => BindsTo.of_eq rfl) (locs rfl) rfl rfl rfl (by decide) ?_)
    clear S F N
    intro dp un gd outer A₀ base loose mean mg mb g L' h₁ tk S B F X N lt T hd hu st
    k_fold
    k_steps)
  rename_i a1 h1 tk1 ro2 sb2 x3 h3 tk3 ro3 F3 N3 sb3 fr3 TO3
  try dsimp only
  refine EndK.of (by assumption) (by assumption) ?_
  intro kF kN
  exact ret x3 _ _ ro3 kF kN (sb2.trans sb3) TO3
theorem isend_ok {w : World} {k : Nat} {h₀ : Heap} {L : Addr} {A : Around} {m : Str → Option Value} {ro : List (Addr × Obj)} {s : Shared} {x : Addr} {kind text : Str} {Q E : Value → Shared → Prop}
    (S : Sit w (k + 1) h₀ L A) (F : Fr h₀ L s.heap m) (N : News h₀ L s.heap ro) (TO : TokObj w ro x kind text)
    (hk : kind = Str.ofString "A" ∨ kind = Str.ofString "$end")
    (ret : ∀ h' tk', Fr h₀ L h' m → News h₀ L h' ro → Q (.bool (kind == Str.ofString "$end")) { s with heap := h', toks := tk' }) :
    wpAny (MD w) A (call (.ref 137) [.ref x]) Q E s := by
  obtain ⟨dx, k1, k2, k3, k4, t1, t2, v1, v2, n, p, q⟩ := TO
  rcases hk with rfl | rfl
  · rw [show (Str.ofString "A" == Str.ofString "$end") = false by decide] at ret
    w_strict (
      refine fillK (w := w) ?_; k_fill; intro _ _
      k_dflt (refine enter [(Str.ofString "self", _)] S F N (by k_is) (by k_is) (fun _ _ => BindsTo.of_eq rfl) (locs rfl) rfl rfl rfl (by decide) ?_)
      clear S F N
      intro dp un gd outer A₀ base loose mean mg mb g L' h₁ tk S B F X N lt T hd hu st
      k_fold
      k_steps)
    try dsimp only
    refine EndK.of (by assumption) (by assumption) ?_
    intro kF kN
    exact ret _ _ kF kN
  · rw [show (Str.ofString "$end" == Str.ofString "$end") = true by decide] at ret
    w_strict (
      refine fillK (w := w) ?_; k_fill; intro _ _
      k_dflt (refine enter [(Str.ofString "self", _)] S F N (by k_is) (by k_is) (fun _ _ => BindsTo.of_eq rfl) (locs rfl) rfl rfl rfl (by decide) ?_)
      clear S F N
      intro dp un gd outer A₀ base loose mean mg mb g L' h₁ tk S B F X N lt T hd hu st
      k_fold
      k_steps)
    try dsimp only
    refine EndK.of (by assumption) (by assumption) ?_
    intro kF kN
    exact ret _ _ kF kN
def allT (e : Env0) : List Turn := dueD e.au e.cuts e.more e.cs e.cs.length 0 0
/-- the scanner behind some turns -/
inductive ScSt (w : World) (e : Env0) (o : Obj) (done : List Turn) (pos : Nat) : Prop
  | mk : ∀ (began : Nat) (ec : Str) (kept : Bool), (ScObj w o e.sa e.cs pos began ((done.length : Nat) : Int) ec kept) → (began ≤ pos) → (pos ≤ e.cs.length) → (done.length ≤ pos) → (echoD e.cs e.more done (Str.ofString "") = ec) → (ec.length ≤ 10 * pos) → (done ++ dueD e.au e.cuts e.more e.cs (e.cs.length - done.length) pos (if kept = true then began else pos) = allT e) → ScSt w e o done pos
theorem st_step {w : World} {e : Env0} {o' : Obj} {done : List Turn} {pos f e' : Nat} {nb : Int} {ec : Str} (K : EnvOk e) (hp : pos < e.cs.length) (hf : f ≤ pos) (hd : done.length ≤ pos) (hec : echoD e.cs e.more done (Str.ofString "") = ec) (hel : ec.length ≤ 10 * pos)
    (hR : done ++ dueD e.au e.cuts e.more e.cs (e.cs.length - done.length) pos f = allT e) (hpk : (nb, ((e' : Nat) : Int)) = pickD e.au e.cuts e.cs pos) (hpe : pos < e') (hle : e' ≤ e.cs.length)
    (SO : ScObj w o' e.sa e.cs e' f ((done.length : Int) + 1) (echo1 e ec nb f e') (keep1 e nb)) : ScSt w e o' (done ++ [⟨nb, f, pos, e'⟩]) e' := by
  have hpl := part_le e.cs f e' K.hx
  refine ⟨f, echo1 e ec nb f e', keep1 e nb, ?_, by lia, hle, by simp; lia, ?_, ?_, ?_⟩
  · have : (((done ++ [(⟨nb, f, pos, e'⟩ : Turn)]).length : Nat) : Int) = (done.length : Int) + 1 := by simp
    rw [this]
    exact SO
  · rw [echoD_snoc, hec]
    rfl
  · unfold echo1
    split
    · lia
    · split
      · rw [Str.length_append]; lia
      · lia
  · rw [← due_step hd hp hpk hR]
    congr 2
    unfold keep1
    by_cases h1 : nb = 1
    · cases e.more <;> simp [h1]
    · simp [h1]
theorem st_end {w : World} {e : Env0} {o : Obj} {done : List Turn} {pos : Nat} (h : ScSt w e o done pos) (hp : ¬ pos < e.cs.length) : done = allT e ∧ pos = e.cs.length := by
  obtain ⟨began, ec, kept, SO, hb, hpl, hd, hec, hel, hR⟩ := h
  have e0 : ∀ n f, dueD e.au e.cuts e.more e.cs n pos f = [] := by
    intro n f
    cases n with
    | zero => rfl
    | succ n => unfold dueD; rw [if_neg hp]
  rw [e0, List.append_nil] at hR
  exact ⟨hR, by lia⟩
inductive NtJ (w : World) (e : Env0) (ro : List (Addr × Obj)) (pos0 : Nat) (toks0 : List Str) (base : Str → Option Value) (n : Nat) (m : Str → Option Value) (nw : List (Addr × Obj)) : Prop
  | mk : ∀ (o1 : Obj) (n1 : Nat) (ta1 : List Addr) (done1 : List Turn) (pos1 : Nat) (ro1 : List (Addr × Obj)) (u1 u2 : Option Value), (n + pos1 = e.cs.length) → (pos0 ≤ pos1) → (m = up (Str.ofString "number") u1 (up (Str.ofString "token") u2 base)) → (nw = (e.ds, o1) :: (e.sa.tu, W.listOf (ta1.map Value.ref).toArray n1) :: ro1) → (Sub ro ro1) → ((∀ p ∈ ro1, p.1 ≠ e.ds)) → ((∀ p ∈ ro1, p.1 ≠ e.sa.tu)) → (ScSt w e o1 done1 pos1) → (Each (TurnAt ro1) ta1 done1) → (tokensD e.cs done1 = toks0) → NtJ w e ro pos0 toks0 base n m nw
theorem TurnAt.sub {r r' : List (Addr × Obj)} {a : Addr} {t : Turn} (h : TurnAt r a t) (s : Sub r r') : TurnAt r' a t := let ⟨t1, t2, t3, x⟩ := h; ⟨t1, t2, t3, x.sub s⟩
/-- what a token that is handed back says -/
def TokSays (e : Env0) (done done' : List Turn) (pos pos' : Nat) (kind text : Str) : Prop :=
  (kind = Str.ofString "A" ∧ tokensD e.cs done' = tokensD e.cs done ++ [text] ∧ pos < pos') ∨ (kind = Str.ofString "$end" ∧ text = Str.ofString "" ∧ pos' = e.cs.length ∧ tokensD e.cs done' = tokensD e.cs done ∧ done' = allT e)
noncomputable section
namespace nt_ok
def St : Prop := ∀ {w : World} {k : Nat} {h₀ : Heap} {L : Addr} {A : Around} {m : Str → Option Value} {ro : List (Addr × Obj)} {s : Shared} {e : Env0} {o : Obj} {ta : List Addr} {nt : Nat} {done : List Turn} {pos : Nat} {Q E : Value → Shared → Prop} (S : Sit w (k + 7) h₀ L A) (F : Fr h₀ L s.heap m) (N : News h₀ L s.heap ((e.ds, o) :: (e.sa.tu, W.listOf (ta.map Value.ref).toArray nt) :: ro)) (off1 : ∀ p ∈ ro, p.1 ≠ e.ds) (off2 : ∀ p ∈ ro, p.1 ≠ e.sa.tu) (ne : @Ne Nat e.sa.tu e.ds) (R : RoAt w ro e) (K : EnvOk e) (ST : ScSt w e o done pos) (hta : Each (TurnAt ro) ta done) (ret : ∀ (x : Addr) (h' : Heap) (tk' : Nat) (ro' : List (Addr × Obj)) (o' : Obj) (n' : Nat) (ta' : List Addr) (done' : List Turn) (pos' : Nat) (kind text : Str), Fr h₀ L h' m → News h₀ L h' ((e.ds, o') :: (e.sa.tu, W.listOf (ta'.map Value.ref).toArray n') :: ro') → (∀ p ∈ ro', p.1 ≠ e.ds) → (∀ p ∈ ro', p.1 ≠ e.sa.tu) → Sub ro ro' →
      ScSt w e o' done' pos' → Each (TurnAt ro') ta' done' → TokObj w ro' x kind text → TokSays e done done' pos pos' kind text → Q (.ref x) { s with heap := h', toks := tk' }),
    wpAny (MD w) A (call (.ref 388) [.ref e.sc]) Q E s
def G1 : {P : Env0 → Obj → (List Addr) → Nat → (List Turn) → Nat → World → Heap → Addr → Around → SOV → LAO → Shared → VSP → VSP → Nat → Nat → (Option (List Code)) → (List Env) → Around → Heap → (List Str) → EOV → SOV → SOV → Heap → Addr → Heap → Nat → Prop // (∀ e o ta nt done pos w h₀ L A m ro s Q E dp un gd outer A₀ base loose mean mg mb g L' h₁ tk, P e o ta nt done pos w h₀ L A m ro s Q E dp un gd outer A₀ base loose mean mg mb g L' h₁ tk) → St} := ⟨_, by
  intro hh w k h₀ L A m ro s e o ta nt done pos Q E S F N off1 off2 ne R K ST hta ret
  refine lessK S ?_
  clear S k; intro S
  have hlen : (textOf e.cs).length = e.cs.length := by simp [textOf, Str.length]
  have hx := K.hx
  refine fillK (w := w) ?_; k_fill; intro _ _
  k_dflt (refine enter [(Str.ofString "self", _)] S F N (by k_is) (by k_is) (fun _ _ => BindsTo.of_eq rfl) (locs rfl) rfl rfl rfl (by decide) ?_)
  clear S F N
  intro dp un gd outer A₀ base loose mean mg mb g L' h₁ tk S B F X N lt T hd hu st
  rename_i ξ1 ξ2
  clear ξ1 ξ2
  revert off1 off2 ne R K ST hta ret hlen hx S B F X N lt T hd hu st
  exact hh e o ta nt done pos w h₀ L A m ro s Q E dp un gd outer A₀ base loose mean mg mb g L' h₁ tk⟩
def R1 (ξ : Cx × (((Env0 × Obj) × (List Addr)) × ((Nat × (List Turn)) × Nat))) := fun e o ta nt done pos w ro g L' => G1.1 e o ta nt done pos w ξ.1.h₀ ξ.1.L ξ.1.A ξ.1.m ro ξ.1.s ξ.1.Q ξ.1.E ξ.1.dp ξ.1.un ξ.1.gd ξ.1.outer ξ.1.A₀ ξ.1.base ξ.1.loose ξ.1.mean ξ.1.mg ξ.1.mb g L' ξ.1.h₁ ξ.1.tk
def P1 (ξ : Cx × (((Env0 × Obj) × (List Addr)) × ((Nat × (List Turn)) × Nat))) : Prop := R1 ξ ξ.2.1.1.1 ξ.2.1.1.2 ξ.2.1.2 ξ.2.2.1.1 ξ.2.2.1.2 ξ.2.2.2 ξ.1.w ξ.1.ro ξ.1.g ξ.1.L'
@[irreducible] def z1 : Cx × (((Env0 × Obj) × (List Addr)) × ((Nat × (List Turn)) × Nat)) := ep P1 (by walk_at "ne")
@[irreducible] def e := z1.2.1.1.1
@[irreducible] def o := z1.2.1.1.2
@[irreducible] def ta := z1.2.1.2
@[irreducible] def nt := z1.2.2.1.1
@[irreducible] def done := z1.2.2.1.2
@[irreducible] def pos := z1.2.2.2
@[irreducible] def w := z1.1.w
@[irreducible] def ro := z1.1.ro
@[irreducible] def g := z1.1.g
@[irreducible] def L' := z1.1.L'
theorem m1 : R1 z1 e o ta nt done pos w ro g L' := by
  intro off1 off2 ne R K ST hta ret hlen hx S B F X N lt T hd hu st
  w_strict (
    refine fillK (w := w) ?_; k_fill; intro _ _
    k_fold
    k_steps)
  have hpl : pos ≤ e.cs.length := by obtain ⟨_, _, _, _, _, h, _⟩ := ST; exact h
  unfold Hold
  refine WhileGo.intro (NtJ w e ro pos (tokensD e.cs done) (fun y => List.lookup y [(Str.ofString "self", Value.ref e.sc)].reverse)) (e.cs.length - pos) F N ?hj ?turn
  case hj => exact ⟨o, nt, ta, done, pos, ro, none, none, by lia, Nat.le_refl _, by walk_at "same locals", rfl, Sub.refl _, off1, off2, ST, hta, rfl⟩
  case' turn =>
    rintro n m₁ nw h6 tk6 F6 N6 ⟨o1, n1, ta1, done1, pos1, ro1, w1, w2, hn, hp1, rfl, rfl, sb1, of1, of2, ST1, hta1, htk⟩
    k_fold
    clear F N
    have R1 := R.sub sb1
    obtain ⟨hsc, TB, HE, GV, RL, EN, _⟩ := id R1
    have ST1' := ST1
    obtain ⟨began, ec, kept, SO, hb, hpl1, hd1, hec, hel, hR⟩ := ST1'
    have SO' := SO
    obtain ⟨k1, k2, k3, k4, k5, k6, k7, k8, k9, k10, k11, k12, k13, k14, k15, u1, u2, u3, u4, u5, u6, u7, rfl⟩ := SO'
    w_strict k_steps
  · have hlt : pos1 < e.cs.length := by
      have h : (pos1 : Int) < (textOf e.cs).length := by assumption
      rw [hlen] at h
      lia
    have htl := hta1.length
    have hf : (if kept = true then began else pos1) ≤ pos1 := by split <;> lia
    k_dflt (refine turn_ok (k := 0) (tv := ta1.map Value.ref) (by walk_at "xS") (by k_asm) (by k_asm) of1 of2 ne R1 K SO hb hlt (by lia) (by lia) (by lia) (by rw [List.length_map]; lia) ?_)
    intro v h7 tk7 ro7 o7 n7 D7 nb e' F7 N7 of17 of27 sb7 hpk hpe hel7 TA SO7 TR
    have ST7 := st_step K hlt hf hd1 hec hel hR hpk hpe hel7 SO7
    have hta7 : Each (TurnAt ro7) (ta1 ++ [D7]) (done1 ++ [⟨nb, if kept = true then began else pos1, pos1, e'⟩]) := (hta1.imp fun _ _ x => x.sub sb7).snoc TA
    have N7' : News g L' h7 ((e.ds, o7) :: (e.sa.tu, W.listOf ((ta1 ++ [D7]).map Value.ref).toArray n7) :: ro7) := by rw [List.map_append]; exact N7
    clear N7
    rcases TR with ⟨hn0, x, rfl, TO⟩ | ⟨hn0, rfl⟩
    · k_sweep
      w_strict k_steps
      refine EndK.of (by assumption) (by assumption) ?_
      intro kF kN
      exact ret x _ _ ro7 o7 n7 _ _ e' _ _ kF kN of17 of27 (sb1.trans sb7) ST7 hta7 TO (.inl ⟨rfl, by rw [tokensD_snoc, htk, if_pos hn0], by lia⟩)
    · k_sweep
      w_strict k_steps
      refine WhileEnd.of (e.cs.length - e') _ (by assumption) (by assumption) (fun _ h => h) (by lia) ⟨o7, n7, _, _, e', ro7, w1, some .none, by lia, by lia, ?_, rfl, sb1.trans sb7, of17, of27, ST7, hta7, by rw [tokensD_snoc, if_neg hn0, List.append_nil]; exact htk⟩
      walk_at "same locals"
  · have hge : ¬ pos1 < e.cs.length := by
      have h : ¬ (pos1 : Int) < (textOf e.cs).length := by assumption
      rw [hlen] at h
      lia
    k_dflt (refine end_ok (k := 0) (by walk_at "xS") (by k_asm) (by k_asm) (.tail _ (.tail _ hsc)) (.head _) SO (TB.sub (Sub.refl _).cons.cons) (EN.sub (Sub.refl _).cons.cons) ?_)
    intro t7 h7 tk7 F7 N7
    k_sweep
    w_strict k_steps
    k_dflt (refine endtok_ok (k := 0) (by walk_at "xS") (by k_asm) (by k_asm) hx ?_)
    intro x8 h8 tk8 ro8 F8 N8 sb8 TO8
    k_sweep
    w_strict k_steps
    obtain ⟨hdone, hpos⟩ := st_end ST1 hge
    have md := sb8 _ (.head _)
    have mt := sb8 _ (.tail _ (.head _))
    have N8c : News g L' h8 (carve e.sa.tu ro8) := PyProof.Rows.News.perm N8 fun p hp => carve_sub hp
    refine EndK.of F8 N8 ?_
    intro kF kN
    exact ret x8 _ _ (carve e.ds (carve e.sa.tu ro8)) _ n1 ta1 done1 pos1 _ _ kF (carve2_news kN md mt) carve_off (fun p hp => carve_off p (carve_sub hp)) (fun p hp => carve_mem (carve_mem (sb8 _ (.tail _ (.tail _ (sb1 _ hp)))) (of2 p (sb1 _ hp))) (of1 p (sb1 _ hp))) ST1
      (hta1.imp fun a t ⟨b1, b2, b3, x⟩ => ⟨b1, b2, b3, carve_mem (carve_mem (sb8 _ (.tail _ (.tail _ x))) (of2 _ x)) (of1 _ x)⟩) ((TO8.carve_list N8 mt).carve_sc N8c (carve_mem md (Ne.symm ne)) SO) (.inr ⟨rfl, rfl, hpos, htk, hdone⟩)
end nt_ok
end
theorem nt_ok : nt_ok.St := nt_ok.G1.2 (fun e o ta nt done pos w h₀ L A m ro s Q E dp un gd outer A₀ base loose mean mg mb g L' h₁ tk => @ep_go _ nt_ok.P1 _ _ (by with_unfolding_all exact nt_ok.m1) ((⟨m, ro, Q, E, s, A, L, h₀, 0, w, dp, un, gd, outer, A₀, base, loose, mean, mg, mb, g, L', h₁, tk⟩ : Cx), (((e, o), ta), ((nt, done), pos))) (by kernel_rfl))
/-- the tokens that are handed back: those of rule 0, then the end -/
inductive ToksAt (w : World) (ro : List (Addr × Obj)) (as : List Addr) (xs : List Str) : Prop
  | mk : ∀ (bs : List Addr) (z : Addr), (as = bs ++ [z]) → (Each (fun a x => TokObj w ro a (Str.ofString "A") x) bs xs) → (TokObj w ro z (Str.ofString "$end") (Str.ofString "")) → ToksAt w ro as xs
theorem ToksAt.sub {w : World} {r r' : List (Addr × Obj)} {as : List Addr} {xs : List Str} (h : ToksAt w r as xs) (s : Sub r r') : ToksAt w r' as xs := let ⟨bs, z, a, b, c⟩ := h; ⟨bs, z, a, b.imp fun _ _ x => x.sub s, c.sub s⟩
/-- next_token, a list kept beside -/
theorem nt_two {w : World} {k : Nat} {h₀ : Heap} {L : Addr} {A : Around} {m : Str → Option Value} {ro : List (Addr × Obj)} {s : Shared} {e : Env0} {o : Obj} {rs : Addr} {xs : List Value} {nr : Nat} {ta : List Addr} {nt : Nat} {done : List Turn} {pos : Nat} {Q E : Value → Shared → Prop}
    (S : Sit w (k + 7) h₀ L A) (F : Fr h₀ L s.heap m) (N : News h₀ L s.heap ((rs, W.listOf xs.toArray nr) :: (e.ds, o) :: (e.sa.tu, W.listOf (ta.map Value.ref).toArray nt) :: ro)) (off0 : ∀ p ∈ ro, p.1 ≠ rs) (off1 : ∀ p ∈ ro, p.1 ≠ e.ds) (off2 : ∀ p ∈ ro, p.1 ≠ e.sa.tu) (ne : @Ne Nat e.sa.tu e.ds) (ne1 : @Ne Nat rs e.ds) (ne2 : @Ne Nat rs e.sa.tu) (R : RoAt w ro e) (K : EnvOk e) (ST : ScSt w e o done pos) (hta : Each (TurnAt ro) ta done)
    (ret : ∀ (x : Addr) (h' : Heap) (tk' : Nat) (ro' : List (Addr × Obj)) (o' : Obj) (n' : Nat) (ta' : List Addr) (done' : List Turn) (pos' : Nat) (kind text : Str), Fr h₀ L h' m → News h₀ L h' ((rs, W.listOf xs.toArray nr) :: (e.ds, o') :: (e.sa.tu, W.listOf (ta'.map Value.ref).toArray n') :: ro') → (∀ p ∈ ro', p.1 ≠ rs) → (∀ p ∈ ro', p.1 ≠ e.ds) → (∀ p ∈ ro', p.1 ≠ e.sa.tu) → Sub ro ro' →
      ScSt w e o' done' pos' → Each (TurnAt ro') ta' done' → TokObj w ro' x kind text → TokSays e done done' pos pos' kind text → Q (.ref x) { s with heap := h', toks := tk' }) :
    wpAny (MD w) A (call (.ref 388) [.ref e.sc]) Q E s := by
  refine nt_ok (ro := (rs, W.listOf xs.toArray nr) :: ro) S F (PyProof.Rows.News.perm N (by walk_at "sublist")) (List.forall_mem_cons.mpr ⟨ne1, off1⟩) (List.forall_mem_cons.mpr ⟨ne2, off2⟩) ne (R.sub (Sub.refl _).cons) K ST (hta.imp fun _ _ x => x.sub (Sub.refl _).cons) fun x h' tk' ro9 o9 n9 ta9 done9 pos9 kind text F9 N9 of19 of29 sb9 ST9 hta9 TO9 TS9 => ?_
  have mr := sb9 _ (.head _)
  have N9' : News h₀ L h' ro9 := PyProof.Rows.News.tail' (PyProof.Rows.News.tail' N9)
  refine ret x h' tk' (carve rs ro9) o9 n9 ta9 done9 pos9 kind text F9 (fun p hp => ?_) carve_off (fun p hp => of19 p (carve_sub hp)) (fun p hp => of29 p (carve_sub hp)) (fun p hp => carve_mem (sb9 _ (.tail _ hp)) (off0 p hp)) ST9 (hta9.imp fun a t ⟨b1, b2, b3, x⟩ => ⟨b1, b2, b3, carve_mem x (tup_ne N9' x mr)⟩) (TO9.carve_list N9' mr) TS9
  rcases List.mem_cons.mp hp with rfl | hp
  · exact N9' _ mr
  · rcases List.mem_cons.mp hp with rfl | hp
    · exact N9 _ (.head _)
    · rcases List.mem_cons.mp hp with rfl | hp
      · exact N9 _ (.tail _ (.head _))
      · exact N9' _ (carve_sub hp)
inductive TksJ (w : World) (e : Env0) (ro : List (Addr × Obj)) (rs : Addr) (base : Str → Option Value) (n : Nat) (m : Str → Option Value) (nw : List (Addr × Obj)) : Prop
  | mk : ∀ (o1 : Obj) (n1 nr : Nat) (ta1 as : List Addr) (x : Addr) (done1 : List Turn) (pos1 : Nat) (ro1 : List (Addr × Obj)) (kind text : Str), (m = up (Str.ofString "result") (some (.ref rs)) base) → (nw = (rs, W.listOf (as.map Value.ref ++ [Value.ref x]).toArray nr) :: (e.ds, o1) :: (e.sa.tu, W.listOf (ta1.map Value.ref).toArray n1) :: ro1) → (Sub ro ro1) → ((∀ p ∈ ro1, p.1 ≠ rs)) → ((∀ p ∈ ro1, p.1 ≠ e.ds)) → ((∀ p ∈ ro1, p.1 ≠ e.sa.tu)) → (ScSt w e o1 done1 pos1) → (Each (TurnAt ro1) ta1 done1) → (TokObj w ro1 x kind text) → (as.length ≤ pos1) → (((kind = Str.ofString "A" ∧ n = e.cs.length - pos1 + 1 ∧ Each (fun a x => TokObj w ro1 a (Str.ofString "A") x) (as ++ [x]) (tokensD e.cs done1) ∧ as.length < pos1) ∨ (kind = Str.ofString "$end" ∧ n = 0 ∧ text = Str.ofString "" ∧ Each (fun a x => TokObj w ro1 a (Str.ofString "A") x) as (tokensD e.cs done1) ∧ pos1 = e.cs.length ∧ done1 = allT e))) → TksJ w e ro rs base n m nw
theorem item_lastL {prog : Program} {w : World} {A : Around} {E : Value → Shared → Prop} {s : Shared} {h₀ : Heap} {L D : Addr} {news : List (Addr × Obj)} {value slice : PySem.Expr} {vs : List Value} {v : Value} {n : Nat} {t : Tok} {Q : Value → Shared → Prop} (N : News h₀ L s.heap news) (hm : (D, W.listOf (vs ++ [v]).toArray n) ∈ news) (hz : vs.length ≤ 1000) (h : Q v s)
    (hs : subscripted slice false (.ref D) (.int (-1) t) = operate [.ref D, .int (-1) t] (getItem (.ref D) (.int (-1) t)) := by with_unfolding_all rfl) :
    wpAny (model prog w) A (subscriptTail value slice (.ref D) (.int (-1) t)) Q E s :=
  have hl : s.heap.IsList D (vs ++ [v]).toArray := PySem.IsL.isList (n := n) (N _ hm).1
  tail_any hl.typeIs slot_list_getitem.lookup (wpAny_getItem_list_neg hl (by decide) (by rw [List.size_toArray, List.length_append, List.length_singleton]; lia) (by decide) (by rw [List.size_toArray, List.length_append, List.length_singleton, show ((-1 : Int) + ((vs.length + 1 : Nat) : Int)).toNat = vs.length by lia]; simp) h) hs
local macro_rules | `(tactic| walk_at "subscriptTail") => pure (κtC (κap `subscriptTail [κh_, κh_, κgr, (κap `Value.int [(κta `«term-_» "-" [(κnl "1")]), κh_])]) (κtA `item_lastL [κqa, κqm, κqn, κq0, κqu]))
noncomputable section
namespace toks_ok
def St : Prop := ∀ {w : World} {k : Nat} {h₀ : Heap} {L : Addr} {A : Around} {m : Str → Option Value} {ro : List (Addr × Obj)} {s : Shared} {e : Env0} {o : Obj} {nt : Nat} {Q E : Value → Shared → Prop} (S : Sit w (k + 8) h₀ L A) (F : Fr h₀ L s.heap m) (N : News h₀ L s.heap ((e.ds, o) :: (e.sa.tu, W.listOf #[] nt) :: ro)) (off1 : ∀ p ∈ ro, p.1 ≠ e.ds) (off2 : ∀ p ∈ ro, p.1 ≠ e.sa.tu) (ne : @Ne Nat e.sa.tu e.ds) (R : RoAt w ro e) (K : EnvOk e) (ST : ScSt w e o [] 0) (ret : ∀ (r : Addr) (h' : Heap) (tk' : Nat) (ro' : List (Addr × Obj)) (o' : Obj) (n' nr : Nat) (ta' as : List Addr), Fr h₀ L h' m → News h₀ L h' ((r, W.listOf (as.map Value.ref).toArray nr) :: (e.ds, o') :: (e.sa.tu, W.listOf (ta'.map Value.ref).toArray n') :: ro') → (∀ p ∈ ro', p.1 ≠ r) → (∀ p ∈ ro', p.1 ≠ e.ds) → (∀ p ∈ ro', p.1 ≠ e.sa.tu) → @Ne Nat r e.ds → @Ne Nat r e.sa.tu → Sub ro ro' →
      ScSt w e o' (allT e) e.cs.length → Each (TurnAt ro') ta' (allT e) → ToksAt w ro' as (tokensD e.cs (allT e)) → Q (.ref r) { s with heap := h', toks := tk' }),
    wpAny (MD w) A (call (.ref 395) [.ref e.sc]) Q E s
def G1 : {P : Env0 → Nat → Nat → Str → Bool → Tok → Tok → Tok → Tok → Tok → Tok → Tok → Tok → Tok → Tok → Tok → Tok → Tok → Tok → Tok → Tok → Tok → Tok → Tok → Tok → Tok → Tok → World → Heap → Addr → Around → SOV → LAO → Shared → VSP → VSP → Nat → Nat → (Option (List Code)) → (List Env) → Around → Heap → (List Str) → EOV → SOV → SOV → Heap → Addr → Heap → Nat → Prop // (∀ e nt began ec kept k1 k2 k3 k4 k5 k6 k7 k8 k9 k10 k11 k12 k13 k14 k15 u1 u2 u3 u4 u5 u6 u7 w h₀ L A m ro s Q E dp un gd outer A₀ base loose mean mg mb g L' h₁ tk, P e nt began ec kept k1 k2 k3 k4 k5 k6 k7 k8 k9 k10 k11 k12 k13 k14 k15 u1 u2 u3 u4 u5 u6 u7 w h₀ L A m ro s Q E dp un gd outer A₀ base loose mean mg mb g L' h₁ tk) → St} := ⟨_, by
  intro hh w k h₀ L A m ro s e o nt Q E S F N off1 off2 ne R K ST ret
  refine lessK S ?_
  clear S k; intro S
  have hx := K.hx
  obtain ⟨hsc, _⟩ := id R
  have ST' := ST
  obtain ⟨began, ec, kept, SO, _⟩ := ST'
  obtain ⟨k1, k2, k3, k4, k5, k6, k7, k8, k9, k10, k11, k12, k13, k14, k15, u1, u2, u3, u4, u5, u6, u7, rfl⟩ := SO
  refine fillK (w := w) ?_; k_fill; intro _ _
  k_dflt (refine enter [(Str.ofString "self", _)] S F N (by k_is) (by k_is) (fun _ _ => BindsTo.of_eq rfl) (locs rfl) rfl rfl rfl (by decide) ?_)
  clear S F N
  intro dp un gd outer A₀ base loose mean mg mb g L' h₁ tk S B F X N lt T hd hu st
  rename_i ξ1 ξ2 ξ3 ξ4 ξ5 ξ6 ξ7 ξ8 ξ9 ξ10 ξ11 ξ12 ξ13 ξ14
  clear ξ13 ξ14
  revert off1 off2 ne R K ret hx hsc ξ1 ξ2 ξ3 ξ4 ξ5 ξ6 ξ7 ξ8 ξ9 ξ10 ξ11 ξ12 ST S B F X N lt T hd hu st
  exact hh e nt began ec kept k1 k2 k3 k4 k5 k6 k7 k8 k9 k10 k11 k12 k13 k14 k15 u1 u2 u3 u4 u5 u6 u7 w h₀ L A m ro s Q E dp un gd outer A₀ base loose mean mg mb g L' h₁ tk⟩
def R1 (ξ : Cx × (((((Env0 × Nat) × (Nat × Str)) × ((Bool × Tok) × Tok)) × (((Tok × Tok) × (Tok × Tok)) × ((Tok × Tok) × Tok))) × ((((Tok × Tok) × (Tok × Tok)) × ((Tok × Tok) × Tok)) × (((Tok × Tok) × Tok) × ((Tok × Tok) × Tok))))) := fun e w A ro => G1.1 e ξ.2.1.1.1.1.2 ξ.2.1.1.1.2.1 ξ.2.1.1.1.2.2 ξ.2.1.1.2.1.1 ξ.2.1.1.2.1.2 ξ.2.1.1.2.2 ξ.2.1.2.1.1.1 ξ.2.1.2.1.1.2 ξ.2.1.2.1.2.1 ξ.2.1.2.1.2.2 ξ.2.1.2.2.1.1 ξ.2.1.2.2.1.2 ξ.2.1.2.2.2 ξ.2.2.1.1.1.1 ξ.2.2.1.1.1.2 ξ.2.2.1.1.2.1 ξ.2.2.1.1.2.2 ξ.2.2.1.2.1.1 ξ.2.2.1.2.1.2 ξ.2.2.1.2.2 ξ.2.2.2.1.1.1 ξ.2.2.2.1.1.2 ξ.2.2.2.1.2 ξ.2.2.2.2.1.1 ξ.2.2.2.2.1.2 ξ.2.2.2.2.2 w ξ.1.h₀ ξ.1.L A ξ.1.m ro ξ.1.s ξ.1.Q ξ.1.E ξ.1.dp ξ.1.un ξ.1.gd ξ.1.outer ξ.1.A₀ ξ.1.base ξ.1.loose ξ.1.mean ξ.1.mg ξ.1.mb ξ.1.g ξ.1.L' ξ.1.h₁ ξ.1.tk
def P1 (ξ : Cx × (((((Env0 × Nat) × (Nat × Str)) × ((Bool × Tok) × Tok)) × (((Tok × Tok) × (Tok × Tok)) × ((Tok × Tok) × Tok))) × ((((Tok × Tok) × (Tok × Tok)) × ((Tok × Tok) × Tok)) × (((Tok × Tok) × Tok) × ((Tok × Tok) × Tok))))) : Prop := R1 ξ ξ.2.1.1.1.1.1 ξ.1.w ξ.1.A ξ.1.ro
@[irreducible] def z1 : Cx × (((((Env0 × Nat) × (Nat × Str)) × ((Bool × Tok) × Tok)) × (((Tok × Tok) × (Tok × Tok)) × ((Tok × Tok) × Tok))) × ((((Tok × Tok) × (Tok × Tok)) × ((Tok × Tok) × Tok)) × (((Tok × Tok) × Tok) × ((Tok × Tok) × Tok)))) := ep P1 (by walk_at "ne")
@[irreducible] def e := z1.2.1.1.1.1.1
@[irreducible] def w := z1.1.w
@[irreducible] def A := z1.1.A
@[irreducible] def ro := z1.1.ro
theorem m1 : R1 z1 e w A ro := by
  intro off1 off2 ne R K ret hx hsc ξ1 ξ2 ξ3 ξ4 ξ5 ξ6 ξ7 ξ8 ξ9 ξ10 ξ11 ξ12 ST S B F X N lt T hd hu st
  w_strict (
    refine fillK (w := w) ?_; k_fill; intro _ _
    k_fold
    k_steps)
  k_dflt (refine nt_ok (k := 0) (ta := []) (by walk_at "xS") (by k_asm) (by k_asm) off1 off2 ne R K ST .nil ?_)
  intro x1 h1 tk1 ro1 o1 n1 ta1 done1 pos1 kind text F1 N1 of11 of21 sb1 ST1 hta1 TO1 TS1
  k_sweep
  w_strict k_steps
  rename_i rs h2 l2 h3 F4 N4
  have ne1 : @Ne Nat rs e.ds := Nat.ne_of_gt l2.1
  have ne2 : @Ne Nat rs e.sa.tu := Nat.ne_of_gt l2.2.1
  have of31 : ∀ p ∈ ro1, p.1 ≠ rs := PySem.W.tbn_neAll l2.2.2
  clear l2
  unfold Hold
  have hd1 : pos1 ≤ e.cs.length := by obtain ⟨_, _, _, _, _, h, _⟩ := ST1; exact h
  refine WhileGo.intro (TksJ w e ro rs (fun y => List.lookup y [(Str.ofString "self", Value.ref e.sc)].reverse)) (if kind = Str.ofString "A" then e.cs.length - pos1 + 1 else 0) F4 N4 ?hj ?turn
  case hj =>
    refine ⟨o1, n1, 0, ta1, [], x1, done1, pos1, ro1, kind, text, rfl, rfl, sb1, of31, of11, of21, ST1, hta1, TO1, Nat.zero_le _, ?_⟩
    rcases TS1 with ⟨rfl, ht, hp⟩ | ⟨rfl, rfl, hp, ht, hd⟩
    · exact .inl ⟨rfl, if_pos rfl, by rw [ht]; exact .cons TO1 .nil, hp⟩
    · exact .inr ⟨rfl, if_neg (by decide), rfl, by rw [ht]; exact .nil, hp, hd⟩
  case' turn =>
    rintro n m₁ nw h6 tk6 F6 N6 ⟨o2, n2, nr, ta2, as, x, done2, pos2, ro2, kind2, text2, rfl, rfl, sb2, of12, of22, of32, ST2, hta2, TO2, hal, hcase⟩
    k_fold
    clear F4 N4
    have hd2 : pos2 ≤ e.cs.length := by obtain ⟨_, _, _, _, _, h, _⟩ := ST2; exact h
    have hsc2 := sb2 _ hsc
    have TO2' := TO2
    obtain ⟨dx2, j1, j2, j3, j4, y1, y2, v1, v2, nn2, X1, X2⟩ := TO2'
    w_strict k_steps
  · rcases hcase with ⟨rfl, hn, heach, halt⟩ | ⟨rfl, hn, rfl, heach, hpos, hdone⟩
    · have hb : (Str.ofString "A" == Str.ofString "$end") = false := by decide
      k_dflt (refine isend_ok (k := 0) (by walk_at "xS") (by k_asm) (by k_asm) (TO2.sub (Sub.refl _).cons.cons.cons) (.inl rfl) ?_)
      intro h7 tk7 F7 N7
      rw [hb]
      k_sweep
      have ST2' := ST2
      obtain ⟨bg2, ec2, kp2, SO2, _⟩ := ST2'
      obtain ⟨g1, g2, g3, g4, g5, g6, g7, g8, g9, g10, g11, g12, g13, g14, g15, b1, b2, b3, b4, b5, b6, b7, rfl⟩ := SO2
      w_strict k_steps
      k_dflt (refine nt_two (k := 0) (xs := as.map Value.ref ++ [Value.ref x]) (by walk_at "xS") (by k_asm) (by k_asm) of12 of22 of32 ne ne1 ne2 (R.sub sb2) K ST2 hta2 ?_)
      intro x9 h9 tk9 ro9 o9 n9 ta9 done9 pos9 kind9 text9 F9 N9 of19 of29 of39 sb9 ST9 hta9 TO9 TS9
      have hd9 : pos9 ≤ e.cs.length := by obtain ⟨_, _, _, _, _, h, _⟩ := ST9; exact h
      k_sweep
      w_strict k_steps
      refine WhileEnd.of (if kind9 = Str.ofString "A" then e.cs.length - pos9 + 1 else 0) _ (by assumption) (by assumption) (fun _ h => h) ?_ ⟨o9, n9, nr + 1, ta9, as ++ [x], x9, done9, pos9, ro9, kind9, text9, rfl, by rw [List.map_append]; rfl, sb2.trans sb9, of19, of29, of39, ST9, hta9, TO9, ?_, ?_⟩
      · rcases TS9 with ⟨rfl, ht, hp⟩ | ⟨rfl, rfl, hp, ht, hd⟩
        · rw [if_pos rfl]; lia
        · rw [if_neg (by decide)]; lia
      · rw [List.length_append, List.length_singleton]
        rcases TS9 with ⟨rfl, ht, hp⟩ | ⟨rfl, rfl, hp, ht, hd⟩ <;> lia
      · rcases TS9 with ⟨rfl, ht, hp⟩ | ⟨rfl, rfl, hp, ht, hd⟩
        · exact .inl ⟨rfl, if_pos rfl, by rw [ht]; exact (heach.imp fun _ _ y => y.sub sb9).snoc TO9, by rw [List.length_append, List.length_singleton]; lia⟩
        · exact .inr ⟨rfl, if_neg (by decide), rfl, by rw [ht]; exact heach.imp fun _ _ y => y.sub sb9, hp, hd⟩
    · have hb : (Str.ofString "$end" == Str.ofString "$end") = true := by decide
      k_dflt (refine isend_ok (k := 0) (by walk_at "xS") (by k_asm) (by k_asm) (TO2.sub (Sub.refl _).cons.cons.cons) (.inr rfl) ?_)
      intro h7 tk7 F7 N7
      rw [hb]
      k_sweep
      w_strict k_steps
      (try dsimp only)
      refine EndK.of F7 N7 ?_
      intro kF kN
      refine ret rs _ _ ro2 o2 n2 nr ta2 (as ++ [x]) kF (by rw [List.map_append]; exact kN) of12 of22 of32 ne1 ne2 sb2 (by rw [← hdone, ← hpos]; exact ST2) (by rw [← hdone]; exact hta2) ⟨as, x, rfl, by rw [← hdone]; exact heach, TO2⟩
end toks_ok
end
theorem toks_ok : toks_ok.St := toks_ok.G1.2 (fun e nt began ec kept k1 k2 k3 k4 k5 k6 k7 k8 k9 k10 k11 k12 k13 k14 k15 u1 u2 u3 u4 u5 u6 u7 w h₀ L A m ro s Q E dp un gd outer A₀ base loose mean mg mb g L' h₁ tk => @ep_go _ toks_ok.P1 _ _ (by with_unfolding_all exact toks_ok.m1) ((⟨m, ro, Q, E, s, A, L, h₀, 0, w, dp, un, gd, outer, A₀, base, loose, mean, mg, mb, g, L', h₁, tk⟩ : Cx), (((((e, nt), (began, ec)), ((kept, k1), k2)), (((k3, k4), (k5, k6)), ((k7, k8), k9))), ((((k10, k11), (k12, k13)), ((k14, k15), u1)), (((u2, u3), u4), ((u5, u6), u7))))) (by kernel_rfl))
noncomputable section
namespace scan_new
def St : Prop := ∀ {w : World} {k : Nat} {h₀ : Heap} {L : Addr} {A : Around} {m : Str → Option Value} {ro : List (Addr × Obj)} {s : Shared} {tb : Addr} {ta : TabA} {cs : List Nat} {tx : Tok} {Q E : Value → Shared → Prop} (S : Sit w (k + 5) h₀ L A) (F : Fr h₀ L s.heap m) (N : News h₀ L s.heap ro) (TB : TablesAt w ro tb ta) (CL : ClassesAt w ro ta.cl) (hx : cs.length ≤ 8) (hcs : ∀ c ∈ cs, c < 3) (ret : ∀ (x ds tu pl nl : Addr) (h' : Heap) (tk' : Nat) (o : Obj) (ro' : List (Addr × Obj)), Fr h₀ L h' m → News h₀ L h' ((ds, o) :: (tu, W.listOf #[] 0) :: ro') → (∀ p ∈ ro', p.1 ≠ ds) → (∀ p ∈ ro', p.1 ≠ tu) → @Ne Nat tu ds → Sub ro ro' → (x, instObj 476 ds) ∈ ro' → (∃ ns n, (nl, W.listOf ns.toArray n) ∈ ro' ∧ IntsAre ns (cs.map Int.ofNat)) →
      ScObj w o ⟨ta.nm, pl, tu, tb, nl⟩ cs 0 0 0 (Str.ofString "") false → Q (.ref x) { s with heap := h', toks := tk' }),
    wpAny (MD w) A (call (.ref 476) [.ref tb, .str (textOf cs) tx]) Q E s
def G1 : {P : Addr → TabA → (List Nat) → Tok → Addr → Tok → Tok → Tok → Tok → Tok → Tok → Tok → Tok → Tok → Nat → Addr → Addr → Addr → Tok → Tok → Tok → Tok → Tok → Tok → Tok → Tok → Tok → Tok → Tok → Tok → Nat → Nat → Nat → Addr → Addr → World → Heap → Addr → Around → SOV → LAO → Shared → VSP → VSP → Nat → Nat → (Option (List Code)) → (List Env) → Around → Heap → (List Str) → EOV → SOV → SOV → Heap → Addr → Heap → Nat → Prop // (∀ tb ta cs tx dt j1 j2 j3 j4 j5 j6 j7 j8 j9 n dc bl cl9 g1 g2 g3 c1 c2 c3 c4 e1 e2 e3 e4 e5 n1 n2 n3 x dx w h₀ L A m ro s Q E dp un gd outer A₀ base loose mean mg mb g L' h₁ tk, P tb ta cs tx dt j1 j2 j3 j4 j5 j6 j7 j8 j9 n dc bl cl9 g1 g2 g3 c1 c2 c3 c4 e1 e2 e3 e4 e5 n1 n2 n3 x dx w h₀ L A m ro s Q E dp un gd outer A₀ base loose mean mg mb g L' h₁ tk) → St} := ⟨_, by
  intro hh w k h₀ L A m ro s tb ta cs tx Q E S F N TB CL hx hcs ret
  refine lessK S ?_
  clear S k; intro S
  have TB' := TB
  obtain ⟨dt, j1, j2, j3, j4, j5, j6, j7, j8, j9, n, T1, T2⟩ := TB'
  have CL' := CL
  obtain ⟨dc, bl, cl9, g1, g2, g3, c1, c2, c3, c4, e1, e2, e3, e4, e5, n1, n2, n3, C1, C2, C3, C4⟩ := CL'
  refine fillK (w := w) ?_; k_fill; intro _ _
  k_dflt (refine enterI (fun x => [(Str.ofString "self", x), (Str.ofString "tables", _), (Str.ofString "text", _), (Str.ofString "most", _)]) S F N (by k_is) (by k_is) (by k_is) (by k_is) (by k_is) (fun _ _ X9 => binds_K X9 rfl (by k_is) rfl rfl rfl) (fun _ => locs rfl) rfl rfl rfl (by decide) ?_)
  clear S F N
  intro x dx dp un gd outer A₀ base loose mean mg mb g L' h₁ tk S B F X N lt l1 l2 T hd hu st
  rename_i ξ1 ξ2
  clear ξ1 ξ2
  revert TB CL hx hcs ret T1 T2 C1 C2 C3 C4 S B F X N lt l1 l2 T hd hu st
  exact hh tb ta cs tx dt j1 j2 j3 j4 j5 j6 j7 j8 j9 n dc bl cl9 g1 g2 g3 c1 c2 c3 c4 e1 e2 e3 e4 e5 n1 n2 n3 x dx w h₀ L A m ro s Q E dp un gd outer A₀ base loose mean mg mb g L' h₁ tk⟩
def R1 (ξ : Cx × ((((((Addr × TabA) × (List Nat)) × (Tok × Addr)) × ((Tok × Tok) × (Tok × Tok))) × ((((Tok × Tok) × Tok) × (Tok × Tok)) × ((Nat × Addr) × (Addr × Addr)))) × (((((Tok × Tok) × Tok) × (Tok × Tok)) × ((Tok × Tok) × (Tok × Tok))) × (((Tok × Tok) × (Tok × Nat)) × ((Nat × Nat) × (Addr × Addr)))))) := fun x dx w ro => G1.1 ξ.2.1.1.1.1.1.1 ξ.2.1.1.1.1.1.2 ξ.2.1.1.1.1.2 ξ.2.1.1.1.2.1 ξ.2.1.1.1.2.2 ξ.2.1.1.2.1.1 ξ.2.1.1.2.1.2 ξ.2.1.1.2.2.1 ξ.2.1.1.2.2.2 ξ.2.1.2.1.1.1.1 ξ.2.1.2.1.1.1.2 ξ.2.1.2.1.1.2 ξ.2.1.2.1.2.1 ξ.2.1.2.1.2.2 ξ.2.1.2.2.1.1 ξ.2.1.2.2.1.2 ξ.2.1.2.2.2.1 ξ.2.1.2.2.2.2 ξ.2.2.1.1.1.1.1 ξ.2.2.1.1.1.1.2 ξ.2.2.1.1.1.2 ξ.2.2.1.1.2.1 ξ.2.2.1.1.2.2 ξ.2.2.1.2.1.1 ξ.2.2.1.2.1.2 ξ.2.2.1.2.2.1 ξ.2.2.1.2.2.2 ξ.2.2.2.1.1.1 ξ.2.2.2.1.1.2 ξ.2.2.2.1.2.1 ξ.2.2.2.1.2.2 ξ.2.2.2.2.1.1 ξ.2.2.2.2.1.2 x dx w ξ.1.h₀ ξ.1.L ξ.1.A ξ.1.m ro ξ.1.s ξ.1.Q ξ.1.E ξ.1.dp ξ.1.un ξ.1.gd ξ.1.outer ξ.1.A₀ ξ.1.base ξ.1.loose ξ.1.mean ξ.1.mg ξ.1.mb ξ.1.g ξ.1.L' ξ.1.h₁ ξ.1.tk
def P1 (ξ : Cx × ((((((Addr × TabA) × (List Nat)) × (Tok × Addr)) × ((Tok × Tok) × (Tok × Tok))) × ((((Tok × Tok) × Tok) × (Tok × Tok)) × ((Nat × Addr) × (Addr × Addr)))) × (((((Tok × Tok) × Tok) × (Tok × Tok)) × ((Tok × Tok) × (Tok × Tok))) × (((Tok × Tok) × (Tok × Nat)) × ((Nat × Nat) × (Addr × Addr)))))) : Prop := R1 ξ ξ.2.2.2.2.2.1 ξ.2.2.2.2.2.2 ξ.1.w ξ.1.ro
@[irreducible] def z1 : Cx × ((((((Addr × TabA) × (List Nat)) × (Tok × Addr)) × ((Tok × Tok) × (Tok × Tok))) × ((((Tok × Tok) × Tok) × (Tok × Tok)) × ((Nat × Addr) × (Addr × Addr)))) × (((((Tok × Tok) × Tok) × (Tok × Tok)) × ((Tok × Tok) × (Tok × Tok))) × (((Tok × Tok) × (Tok × Nat)) × ((Nat × Nat) × (Addr × Addr))))) := ep P1 (by walk_at "ne")
@[irreducible] def x := z1.2.2.2.2.2.1
@[irreducible] def dx := z1.2.2.2.2.2.2
@[irreducible] def w := z1.1.w
@[irreducible] def ro := z1.1.ro
theorem m1 : R1 z1 x dx w ro := by
  intro TB CL hx hcs ret T1 T2 C1 C2 C3 C4 S B F X N lt l1 l2 T hd hu st
  w_strict (
    refine fillK (w := w) ?_; k_fill; intro _ _
    k_fold
    have l1' := l1
    (try k_lt l1); (try k_lt2 l2)
    k_steps)
  have l2' : @LT.lt Nat _ dx x := l2
  have o1 : ∀ p ∈ ro, p.1 ≠ dx := fun p hp => Nat.ne_of_lt (l1' p hp)
  have o2 : @Ne Nat x dx := Nat.ne_of_gt l2'
  k_dflt (refine rinit_ok (k := 0) (by walk_at "xS") (by k_asm) (by k_asm) o1 o2 ?_)
  intro tu pl h2 tk2 oR F2 N2 RI q1 q2 q3 q4 q5
  obtain ⟨i1, i2, i3, i4, i5, i6, i7, i8, i9, i10, i11, i12, i13, u1, u2, u3, u4, u5, u6, u7, rfl⟩ := RI
  dsimp only [en] at N2
  k_sweep
  w_strict k_steps
  k_dflt (refine word_ok (k := 0) (by walk_at "xS") (by k_asm) (by k_asm) (CL.sub (by walk_at "sub tail")) hx hcs ?_)
  intro nl h3 tk3 vs nv F3 N3 fr3 hvs
  have fr3' : @Ne Nat dx nl := fr3 _ (.tail _ (.tail _ (.tail _ (.head _))))
  k_sweep
  w_strict k_steps
  refine EndK.of (by assumption) (by assumption) ?_
  intro kF kN
  have nx : x ≠ tu := inst_ne kN (.tail _ (.tail _ (.tail _ (.head _)))) (.tail _ (.head _)) rfl
  refine ⟨rfl, ret x dx tu pl nl _ _ _ ((nl, _) :: (pl, W.listOf #[] 0) :: (x, _) :: ro) kF (PyProof.Rows.News.perm kN (by walk_at "sublist")) (List.forall_mem_cons.mpr ⟨Ne.symm fr3', List.forall_mem_cons.mpr ⟨q2, List.forall_mem_cons.mpr ⟨o2, o1⟩⟩⟩)
    (List.forall_mem_cons.mpr ⟨Ne.symm (fr3 _ (.head _)), List.forall_mem_cons.mpr ⟨q1, List.forall_mem_cons.mpr ⟨nx, q5⟩⟩⟩) q3 (Sub.refl _).cons.cons.cons (.tail _ (.tail _ (.head _))) ⟨vs, nv, .head _, hvs⟩ ?_⟩
  exact ⟨_, _, _, _, _, _, _, _, _, _, _, _, _, _, _, _, _, _, _, _, _, _, rfl⟩
end scan_new
end
theorem scan_new : scan_new.St := scan_new.G1.2 (fun tb ta cs tx dt j1 j2 j3 j4 j5 j6 j7 j8 j9 n dc bl cl9 g1 g2 g3 c1 c2 c3 c4 e1 e2 e3 e4 e5 n1 n2 n3 x dx w h₀ L A m ro s Q E dp un gd outer A₀ base loose mean mg mb g L' h₁ tk => @ep_go _ scan_new.P1 _ _ (by with_unfolding_all exact scan_new.m1) ((⟨m, ro, Q, E, s, A, L, h₀, 0, w, dp, un, gd, outer, A₀, base, loose, mean, mg, mb, g, L', h₁, tk⟩ : Cx), ((((((tb, ta), cs), (tx, dt)), ((j1, j2), (j3, j4))), ((((j5, j6), j7), (j8, j9)), ((n, dc), (bl, cl9)))), (((((g1, g2), g3), (c1, c2)), ((c3, c4), (e1, e2))), (((e3, e4), (e5, n1)), ((n2, n3), (x, dx)))))) (by kernel_rfl))
theorem due_in {a : Autos} {cuts : Int → Bool × Int} {more : Bool} {cs : List Nat} (o0 : AutoOk (a.rows 0) (a.tags 0)) (o1 : AutoOk (a.rows 1) (a.tags 1)) : ∀ {n pos first : Nat}, ∀ t ∈ dueD a cuts more cs n pos first, (t.number = -1 ∨ t.number = 0 ∨ t.number = 1) ∧ t.start < cs.length ∧ t.start < t.stop ∧ t.stop ≤ cs.length
  | 0, pos, first, t, h => by simp [dueD] at h
  | n + 1, pos, first, t, h => by
    unfold dueD at h
    split at h
    · rename_i hp
      rcases List.mem_cons.mp h with rfl | h
      · have b := pick_bounds (cuts := cuts) o0 o1 hp
        exact ⟨b.1, hp, by show pos < (pickD a cuts cs pos).2.toNat; lia, by show (pickD a cuts cs pos).2.toNat ≤ cs.length; lia⟩
      · exact due_in o0 o1 t h
    · cases h
theorem due_len {a : Autos} {cuts : Int → Bool × Int} {more : Bool} {cs : List Nat} : ∀ {n pos first : Nat}, (dueD a cuts more cs n pos first).length ≤ n
  | 0, _, _ => by simp [dueD]
  | n + 1, pos, first => by
    unfold dueD
    split
    · simp only [List.length_cons]; exact Nat.succ_le_succ due_len
    · exact Nat.zero_le _
def lineT (cs : List Nat) (t : Turn) : Str := lineOf (textOf cs) t.number t.start t.stop
theorem line_n (x : Str) : Str.ofString "--accepting default rule (\"" ++ x ++ Str.ofString "\")" = Str.ofString "--accepting default rule" ++ Str.ofString " (\"" ++ x ++ Str.ofString "\")" := by
  rw [show Str.ofString "--accepting default rule (\"" = Str.ofString "--accepting default rule" ++ Str.ofString " (\"" by decide]
inductive LinJ (cs : List Nat) (ts : List Turn) (ln : Addr) (ro1 : List (Addr × Obj)) (base : Str → Option Value) (i : Nat) (m : Str → Option Value) (nw : List (Addr × Obj)) : Prop
  | mk : ∀ (vs : List Value) (n : Nat) (u1 u2 u3 u4 : Option Value), (nw = (ln, W.listOf vs.toArray n) :: ro1) → (PyProof.Rows.StrsAre vs ((ts.take i).map (lineT cs))) → (m = up (Str.ofString "part") u4 (up (Str.ofString "end") u3 (up (Str.ofString "begin") u2 (up (Str.ofString "number") u1 base)))) → LinJ cs ts ln ro1 base i m nw
theorem news_split {h₀ h : Heap} {L a : Addr} {o : Obj} {r : List (Addr × Obj)} (N : News h₀ L h ((a, o) :: r)) : ∃ r', r' = r ∧ News h₀ L h ((a, o) :: r') := ⟨r, rfl, N⟩
theorem up4n {a b c d : Str} {m : Str → Option Value} (ha : m a = none) (hb : m b = none) (hc : m c = none) (hd : m d = none) : m = up a none (up b none (up c none (up d none m))) := by
  rw [← up_none hd, ← up_none hc, ← up_none hb, ← up_none ha]
theorem lin_n (cs : List Nat) (tf st sp : Nat) : Str.ofString "--accepting default rule (\"" ++ PySem.Txt.slice (textOf cs) (some (st : Int)) (some (sp : Int)) ++ Str.ofString "\")" = lineT cs ⟨-1, tf, st, sp⟩ := by
  show _ = Str.ofString "--accepting default rule" ++ Str.ofString " (\"" ++ PySem.Txt.slice (textOf cs) (some (st : Int)) (some (sp : Int)) ++ Str.ofString "\")"
  exact line_n _
theorem lin_0 (cs : List Nat) (tf st sp : Nat) : Str.ofString "--accepting rule " ++ Str.ofString (toString (0 : Int)) ++ Str.ofString " (\"" ++ PySem.Txt.slice (textOf cs) (some (st : Int)) (some (sp : Int)) ++ Str.ofString "\")" = lineT cs ⟨0, tf, st, sp⟩ := by
  show _ = Str.ofString "--accepting rule 0" ++ Str.ofString " (\"" ++ PySem.Txt.slice (textOf cs) (some (st : Int)) (some (sp : Int)) ++ Str.ofString "\")"
  rw [show Str.ofString "--accepting rule " ++ Str.ofString (toString (0 : Int)) = Str.ofString "--accepting rule 0" by decide +kernel]
theorem lin_1 (cs : List Nat) (tf st sp : Nat) : Str.ofString "--accepting rule " ++ Str.ofString (toString (1 : Int)) ++ Str.ofString " (\"" ++ PySem.Txt.slice (textOf cs) (some (st : Int)) (some (sp : Int)) ++ Str.ofString "\")" = lineT cs ⟨1, tf, st, sp⟩ := by
  show _ = Str.ofString "--accepting rule 1" ++ Str.ofString " (\"" ++ PySem.Txt.slice (textOf cs) (some (st : Int)) (some (sp : Int)) ++ Str.ofString "\")"
  rw [show Str.ofString "--accepting rule " ++ Str.ofString (toString (1 : Int)) = Str.ofString "--accepting rule 1" by decide +kernel]
theorem locT {A B C D u1 u2 u3 u4 : Option Value} {base : Str → Option Value} : up (Str.ofString "part") A (up (Str.ofString "end") B (up (Str.ofString "begin") C (up (Str.ofString "number") D (up (Str.ofString "part") u4 (up (Str.ofString "end") u3 (up (Str.ofString "begin") u2 (up (Str.ofString "number") u1 base))))))) =
    up (Str.ofString "part") A (up (Str.ofString "end") B (up (Str.ofString "begin") C (up (Str.ofString "number") D base))) := by
  funext y
  by_cases h0 : y = Str.ofString "part"
  · subst h0; rfl
  by_cases h1 : y = Str.ofString "end"
  · subst h1; rfl
  by_cases h2 : y = Str.ofString "begin"
  · subst h2; rfl
  by_cases h3 : y = Str.ofString "number"
  · subst h3; rfl
  simp only [if_neg h0, if_neg h1, if_neg h2, if_neg h3, up]
theorem lin_close {h₀ h' : Heap} {L I ln : Addr} {oI : Obj} {cs : List Nat} {ts : List Turn} {ro1 all : List (Addr × Obj)} {base : Str → Option Value} {i tk n : Nat} {s : Shared} {m' : Str → Option Value} {vs : List Value} {t : Turn} {x : Str} {tt : Tok} {A B C D : Option Value} (F : Fr h₀ L h' m') (N : News h₀ L h' all) (hti : ts[i]? = some t) (hx : x = lineT cs t) (hvs : PyProof.Rows.StrsAre vs ((ts.take i).map (lineT cs)))
    (hall : ∀ p ∈ (I, oI) :: (ln, W.listOf (vs ++ [Value.str x tt]).toArray n) :: ro1, p ∈ all) (hI : ln ≠ I) (off : ∀ p ∈ ro1, p.1 ≠ I)
    (hm : m' = up (Str.ofString "part") A (up (Str.ofString "end") B (up (Str.ofString "begin") C (up (Str.ofString "number") D base)))) :
    TurnEnd h₀ L I oI (LinJ cs ts ln ro1 base (i + 1)) s { s with heap := h', toks := tk } := by
  refine TurnEnd.of ((ln, W.listOf (vs ++ [Value.str x tt]).toArray n) :: ro1) F N hall (List.forall_mem_cons.mpr ⟨hI, off⟩) ⟨_, n, D, C, B, A, rfl, ?_, hm⟩
  rw [List.take_add_one, hti, List.map_append, hx]
  exact kct_snoc hvs
theorem trace_ok {w : World} {k : Nat} {h₀ : Heap} {L : Addr} {A : Around} {m : Str → Option Value} {ro : List (Addr × Obj)} {s : Shared} {tb : Addr} {ta : TabA} {au : Autos} {cuts : Int → Bool × Int} {more : Bool} {cs : List Nat} {tx : Tok} {Q E : Value → Shared → Prop}
    (S : Sit w (k + 9) h₀ L A) (F : Fr h₀ L s.heap m) (N : News h₀ L s.heap ro) (TB : TablesAt w ro tb ta) (CL : ClassesAt w ro ta.cl) (HE : HeldAt w ro ta.he au) (GV : GivenAt w ro ta.gv cuts) (RL : RulesAt w ro ta.rl more) (EN : DAt w ro ta.ends []) (o0 : AutoOk (au.rows 0) (au.tags 0)) (o1 : AutoOk (au.rows 1) (au.tags 1)) (hx : cs.length ≤ 8) (hcs : ∀ c ∈ cs, c < 3)
    (ret : ∀ (r tl ln : Addr) (h' : Heap) (tk' : Nat) (ro' : List (Addr × Obj)) (vs : List Value), Fr h₀ L h' m → News h₀ L h' ro' → Sub ro ro' → TupAt ro' r [.ref tl, .ref ln] → ListAt ro' ln vs → PyProof.Rows.StrsAre vs ((dueD au cuts more cs cs.length 0 0).map (lineT cs) ++ [Str.ofString "--EOF"]) → Q (.ref r) { s with heap := h', toks := tk' }) :
    wpAny (MD w) A (call (.ref 485) [.ref tb, .str (textOf cs) tx]) Q E s := by
  have hlen : (textOf cs).length = cs.length := by simp [textOf, Str.length]
  w_strict (
    refine fillK (w := w) ?_; k_fill; intro _ _
    k_dflt (refine enter [(Str.ofString "tables", _), (Str.ofString "text", _)] S F N (by k_is) (by k_is) (fun _ _ => BindsTo.of_eq rfl) (locs rfl) rfl rfl rfl (by decide) ?_)
    clear S F N
    intro dp un gd outer A₀ base loose mean mg mb g L' h₁ tk S B F X N lt T hd hu st
    k_fold
    k_steps)
  k_dflt (refine scan_new (k := 0) (Sit.lessN (by assumption) (by decide)) (by k_asm) (by k_asm) TB CL hx hcs ?_)
  intro x ds tu pl nl h2 tk2 o2 ro2 F2 N2 of12 of22 ne sb2 hx2 hnl2 SO2
  have K : EnvOk ⟨x, ds, ⟨ta.nm, pl, tu, tb, nl⟩, ta, au, cuts, cs, more⟩ := ⟨o0, o1, hx, hcs⟩
  have R2 : RoAt w ro2 ⟨x, ds, ⟨ta.nm, pl, tu, tb, nl⟩, ta, au, cuts, cs, more⟩ := ⟨hx2, TB.sub sb2, HE.sub sb2, GV.sub sb2, RL.sub sb2, EN.sub sb2, hnl2⟩
  have ST2 : ScSt w ⟨x, ds, ⟨ta.nm, pl, tu, tb, nl⟩, ta, au, cuts, cs, more⟩ o2 [] 0 := ⟨0, Str.ofString "", false, SO2, Nat.le_refl _, Nat.zero_le _, Nat.le_refl _, rfl, Nat.le_refl _, rfl⟩
  obtain ⟨k1, k2, k3, k4, k5, k6, k7, k8, k9, k10, k11, k12, k13, k14, k15, u1, u2, u3, u4, u5, u6, u7, rfl⟩ := SO2
  k_sweep
  w_strict k_steps
  k_dflt (refine toks_ok (k := 0) (e := ⟨x, ds, ⟨ta.nm, pl, tu, tb, nl⟩, ta, au, cuts, cs, more⟩) (Sit.lessN (by assumption) (by decide)) (by k_asm) (by k_asm) of12 of22 ne R2 K ST2 ?_)
  intro tl h3 tk3 ro3 o3 n3 nr3 ta3 as3 F3 N3 of13 of23 of33 ne1 ne2 sb3 ST3 hta3 TK3
  obtain ⟨began3, ec3, kept3, SO3, _⟩ := ST3
  dsimp only at N3 of13 of23 of33 ne1 ne2 SO3 hta3 TK3
  obtain ⟨q1, q2, q3, q4, q5, q6, q7, q8, q9, q10, q11, q12, q13, q14, q15, z1, z2, z3, z4, z5, z6, z7, rfl⟩ := SO3
  have hx3 := sb3 _ hx2
  k_sweep
  w_strict k_steps
  rename_i ln h4 l4 h5 F4 N4
  obtain ⟨ro1, hr1, N5⟩ := news_split N4
  have htu : (tu, W.listOf (ta3.map Value.ref).toArray n3) ∈ ro1 := by rw [hr1]; exact .tail _ (.tail _ (.head _))
  have hta5 : Each (TurnAt ro1) ta3 (dueD au cuts more cs cs.length 0 0) := by rw [hr1]; exact hta3.imp fun _ _ y => y.sub (Sub.refl _).cons.cons.cons
  have hof5 : ∀ p ∈ ro1, p.1 ≠ ln := by rw [hr1]; exact PySem.W.tbn_neAll l4
  have hsub5 : Sub ro ro1 := by rw [hr1]; exact fun p hp => .tail _ (.tail _ (.tail _ (sb3 _ (sb2 _ hp))))
  clear N4 hr1 l4 ne1 ne2 ne of13 of23 of33
  unfold Hold
  have hll := hta5.length
  refine iterL (vs := ta3.map Value.ref) (nn := n3) (LinJ cs (dueD au cuts more cs cs.length 0 0) ln ro1 (up (Str.ofString "lines") (some (.ref ln)) (up (Str.ofString "tokens") (some (.ref tl)) (up (Str.ofString "scanner") (some (.ref x)) (fun y => List.lookup y [(Str.ofString "tables", Value.ref tb), (Str.ofString "text", Value.str (textOf cs) tx)].reverse)))))
    rfl (fun i m nw hJ => by obtain ⟨_, _, _, _, _, _, rfl, _⟩ := hJ; exact .tail _ htu) F4 N5 ⟨[], 0, none, none, none, none, rfl, .nil, up4n rfl rfl rfl rfl⟩ ?turn ?done
  case' turn =>
    rintro i v m₁ nw I oI h6 tk6 hv ⟨vs, n6, u1, u2, u3, u4, rfl, hvs, rfl⟩ offI F6 N6
    k_fold
    clear F4 N5
    obtain ⟨ai, t, rfl, hti, d1, d2, d3, hT⟩ := hta5.at2 hv
    have htb := due_in o0 o1 t (List.mem_of_getElem? hti)
    have hT' := hT
    dsimp only [TupAt] at hT'
    have hst : ((t.start : Nat) : Int) < (textOf cs).length := by rw [hlen]; lia
    have hI : @Ne Nat I ln := Ne.symm (offI _ (.head _))
    have hvl : vs.length = min i (dueD au cuts more cs cs.length 0 0).length := by rw [PyProof.Rows.StrsAre.length hvs, List.length_map, List.length_take]
    have hpl := part_le cs t.start t.stop hx
    have hdl := due_len (a := au) (cuts := cuts) (more := more) (cs := cs) (n := cs.length) (pos := 0) (first := 0)
    have hv8 : vs.length ≤ 8 := by lia
    clear hvl hdl
    obtain ⟨nb, tf, st, sp⟩ := t
    dsimp only at htb hT' hst hpl
    obtain ⟨hnb, ht1, ht2, ht3⟩ := htb
    rcases hnb with rfl | rfl | rfl
    all_goals w_strict k_steps
  case' done =>
    rintro m₁ nw h6 tk6 ⟨vs, n6, u1, u2, u3, u4, rfl, hvs, rfl⟩ F6 N6
    clear F4 N5
    (try dsimp only)
    have hdl := due_len (a := au) (cuts := cuts) (more := more) (cs := cs) (n := cs.length) (pos := 0) (first := 0)
    have hv8 : vs.length ≤ 8 := by
      have hvl := PyProof.Rows.StrsAre.length hvs
      rw [List.length_map, List.length_take] at hvl
      lia
    w_strict k_steps
  rotate_left 1
  · exact lin_close (F := by assumption) (N := by assumption) hti (lin_n cs tf st sp) hvs (by walk_at "sublist") (Ne.symm hI) (fun p hp => offI p (.tail _ hp)) locT
  · have h9 : ((st : Nat) : Int) = (textOf cs).length := by assumption
    lia
  · exact lin_close (F := by assumption) (N := by assumption) hti (lin_0 cs tf st sp) hvs (by walk_at "sublist") (Ne.symm hI) (fun p hp => offI p (.tail _ hp)) locT
  · have h9 : ((st : Nat) : Int) = (textOf cs).length := by assumption
    lia
  · exact lin_close (F := by assumption) (N := by assumption) hti (lin_1 cs tf st sp) hvs (by walk_at "sublist") (Ne.symm hI) (fun p hp => offI p (.tail _ hp)) locT
  rename_i D9 h9 F9 N9 l9
  rw [List.length_map, hll, List.take_length] at hvs
  refine EndK.of F9 N9 ?_
  intro kF kN
  exact ret D9 tl ln _ _ _ (vs ++ [Value.str (Str.ofString "--EOF") _]) kF kN (fun p hp => .tail _ (.tail _ (hsub5 _ hp))) (.head _) ⟨_, .tail _ (.head _)⟩ (kct_snoc hvs)
theorem lexstep_new {w : World} {k : Nat} {h₀ : Heap} {L : Addr} {A : Around} {m : Str → Option Value} {ro : List (Addr × Obj)} {s : Shared} {word : Str} {v : Value} {t1 : Tok} {Q E : Value → Shared → Prop}
    (S : Sit w (k + 2) h₀ L A) (F : Fr h₀ L s.heap m) (N : News h₀ L s.heap ro)
    (ret : ∀ x h' tk' ro', Fr h₀ L h' m → News h₀ L h' ro' → Sub ro ro' → (∀ p ∈ ro, p.1 < x) → StepObj w ro' x word v → Q (.ref x) { s with heap := h', toks := tk' }) :
    wpAny (MD w) A (call (.ref 763) [.str word t1, v]) Q E s := by
  w_strict (
    refine fillK (w := w) ?_; k_fill; intro _ _
    k_dflt (refine enterI (fun x => [(Str.ofString "self", x), (Str.ofString "word", _), (Str.ofString "worth", _)]) S F N (by k_is) (by k_is) (by k_is) (by k_is) (by k_is) (fun _ _ X9 => binds_K X9 rfl (by k_is) rfl rfl rfl) (fun _ => locs rfl) rfl rfl rfl (by decide) ?_)
    clear S F N
    intro x dx dp un gd outer A₀ base loose mean mg mb g L' h₁ tk S B F X N lt l1 l2 T hd hu st
    k_fold
    have l1' := l1
    (try k_lt l1); (try k_lt2 l2)
    k_steps)
  refine EndK.of (by assumption) (by assumption) ?_
  intro kF kN
  have l2' : @LT.lt Nat _ dx x := l2
  exact ⟨rfl, ret x _ _ _ kF kN (fun p hp => .tail _ (.tail _ hp)) (fun p hp => Nat.lt_trans (l1' p hp) l2') ⟨dx, _, _, _, _, .head _, .tail _ (.head _)⟩⟩
theorem lexstep_new1 {w : World} {k : Nat} {h₀ : Heap} {L : Addr} {A : Around} {m : Str → Option Value} {ro : List (Addr × Obj)} {s : Shared} {word : Str} {t1 : Tok} {Q E : Value → Shared → Prop}
    (S : Sit w (k + 2) h₀ L A) (F : Fr h₀ L s.heap m) (N : News h₀ L s.heap ro)
    (ret : ∀ x h' tk' ro', Fr h₀ L h' m → News h₀ L h' ro' → Sub ro ro' → (∀ p ∈ ro, p.1 < x) → StepObj w ro' x word .none → Q (.ref x) { s with heap := h', toks := tk' }) :
    wpAny (MD w) A (call (.ref 763) [.str word t1]) Q E s := by
  w_strict (
    refine fillK (w := w) ?_; k_fill; intro _ _
    k_dflt (refine enterI (fun x => [(Str.ofString "self", x), (Str.ofString "word", _), (Str.ofString "worth", _)]) S F N (by k_is) (by k_is) (by k_is) (by k_is) (by k_is) (fun _ _ X9 => binds_K X9 rfl (by k_is) rfl rfl rfl) (fun _ => locs rfl) rfl rfl rfl (by decide) ?_)
    clear S F N
    intro x dx dp un gd outer A₀ base loose mean mg mb g L' h₁ tk S B F X N lt l1 l2 T hd hu st
    k_fold
    have l1' := l1
    (try k_lt l1); (try k_lt2 l2)
    k_steps)
  refine EndK.of (by assumption) (by assumption) ?_
  intro kF kN
  have l2' : @LT.lt Nat _ dx x := l2
  exact ⟨rfl, ret x _ _ _ kF kN (fun p hp => .tail _ (.tail _ hp)) (fun p hp => Nat.lt_trans (l1' p hp) l2') ⟨dx, _, _, _, _, .head _, .tail _ (.head _)⟩⟩
theorem lexrule_lit {w : World} {k : Nat} {h₀ : Heap} {L : Addr} {A : Around} {m : Str → Option Value} {ro : List (Addr × Obj)} {s : Shared} {v1 v2 v3 v5 : Value} {sl : Addr} {Q E : Value → Shared → Prop}
    (S : Sit w (k + 2) h₀ L A) (F : Fr h₀ L s.heap m) (N : News h₀ L s.heap ro)
    (ret : ∀ x dx o h' tk', Fr h₀ L h' m → News h₀ L h' ((x, instObj 824 dx) :: (dx, o) :: ro) → (∀ p ∈ ro, p.1 < dx) → @LT.lt Nat _ dx x → (∀ r, RuleObj w ((x, instObj 824 dx) :: (dx, o) :: r) x sl) → Q (.ref x) { s with heap := h', toks := tk' }) :
    wpAny (MD w) A (call (.ref 824) [v1, v2, v3, .ref sl, v5]) Q E s := by
  w_strict (
    refine fillK (w := w) ?_; k_fill; intro _ _
    k_dflt (refine enterI (fun x => [(Str.ofString "self", x), (Str.ofString "number", _), (Str.ofString "conditions", _), (Str.ofString "pattern", _), (Str.ofString "steps", _), (Str.ofString "line", _)]) S F N (by k_is) (by k_is) (by k_is) (by k_is) (by k_is) (fun _ _ _ => BindsTo.of_eq rfl) (fun _ => locs rfl) rfl rfl rfl (by decide) ?_)
    clear S F N
    intro x dx dp un gd outer A₀ base loose mean mg mb g L' h₁ tk S B F X N lt l1 l2 T hd hu st
    k_fold
    have l1' := l1
    (try k_lt l1); (try k_lt2 l2)
    k_steps)
  refine EndK.of (by assumption) (by assumption) ?_
  intro kF kN
  have l2' : @LT.lt Nat _ dx x := l2
  exact ⟨rfl, ret x dx _ _ _ kF kN l1' l2' fun r => ⟨dx, _, _, _, _, _, _, _, _, _, _, .head _, .tail _ (.head _)⟩⟩
theorem dfa_lit {w : World} {k : Nat} {h₀ : Heap} {L : Addr} {A : Around} {m : Str → Option Value} {ro : List (Addr × Obj)} {s : Shared} {Ra Ta : Addr} {Q E : Value → Shared → Prop}
    (S : Sit w (k + 2) h₀ L A) (F : Fr h₀ L s.heap m) (N : News h₀ L s.heap ro) 
    (ret : ∀ x dx o h' tk', Fr h₀ L h' m → News h₀ L h' ((x, instObj 201 dx) :: (dx, o) :: ro) → (∀ p ∈ ro, p.1 < dx) → @LT.lt Nat _ dx x → (∀ r rows tags, RowsAt r Ra rows → TagsAt r Ta tags → DfaAt w ((x, instObj 201 dx) :: (dx, o) :: r) x rows tags) → Q (.ref x) { s with heap := h', toks := tk' }) :
    wpAny (MD w) A (call (.ref 201) [.ref Ra, .ref Ta]) Q E s := by
  w_strict (
    refine fillK (w := w) ?_; k_fill; intro _ _
    k_dflt (refine enterI (fun x => [(Str.ofString "self", x), (Str.ofString "rows", _), (Str.ofString "tags", _)]) S F N (by k_is) (by k_is) (by k_is) (by k_is) (by k_is) (fun _ _ _ => BindsTo.of_eq rfl) (fun _ => locs rfl) rfl rfl rfl (by decide) ?_)
    clear S F N
    intro x dx dp un gd outer A₀ base loose mean mg mb g L' h₁ tk S B F X N lt l1 l2 T hd hu st
    k_fold
    have l1' := l1
    (try k_lt l1); (try k_lt2 l2)
    k_steps)
  refine EndK.of (by assumption) (by assumption) ?_
  intro kF kN
  have l2' : @LT.lt Nat _ dx x := l2
  exact ⟨rfl, ret x dx _ _ _ kF kN l1' l2' fun r rows tags hR hT => ⟨dx, Ra, Ta, _, _, _, .head _, .tail _ (.head _), hR.sub (Sub.refl _).cons.cons, hT.sub (Sub.refl _).cons.cons⟩⟩
theorem cut_lit {w : World} {k : Nat} {h₀ : Heap} {L : Addr} {A : Around} {m : Str → Option Value} {ro : List (Addr × Obj)} {s : Shared} {bh : Bool} {n : Int} {t1 t2 : Tok} {Q E : Value → Shared → Prop}
    (S : Sit w (k + 2) h₀ L A) (F : Fr h₀ L s.heap m) (N : News h₀ L s.heap ro)
    (ret : ∀ x dx o h' tk', Fr h₀ L h' m → News h₀ L h' ((x, instObj 230 dx) :: (dx, o) :: ro) → (∀ p ∈ ro, p.1 < dx) → @LT.lt Nat _ dx x → (∀ r, CutObj w ((x, instObj 230 dx) :: (dx, o) :: r) x bh n) → Q (.ref x) { s with heap := h', toks := tk' }) :
    wpAny (MD w) A (call (.ref 230) [.str (wayOf bh) t1, .int n t2, .none, .none]) Q E s := by
  w_strict (
    refine fillK (w := w) ?_; k_fill; intro _ _
    k_dflt (refine enterI (fun x => [(Str.ofString "self", x), (Str.ofString "way", _), (Str.ofString "length", _), (Str.ofString "front", _), (Str.ofString "back", _)]) S F N (by k_is) (by k_is) (by k_is) (by k_is) (by k_is) (fun _ _ _ => BindsTo.of_eq rfl) (fun _ => locs rfl) rfl rfl rfl (by decide) ?_)
    clear S F N
    intro x dx dp un gd outer A₀ base loose mean mg mb g L' h₁ tk S B F X N lt l1 l2 T hd hu st
    k_fold
    have l1' := l1
    (try k_lt l1); (try k_lt2 l2)
    k_steps)
  refine EndK.of (by assumption) (by assumption) ?_
  intro kF kN
  have l2' : @LT.lt Nat _ dx x := l2
  exact ⟨rfl, ret x dx _ _ _ kF kN l1' l2' fun r => ⟨dx, _, _, _, _, _, _, _, .head _, .tail _ (.head _)⟩⟩
section
section
local macro_rules | `(tactic| walk_at "exec For Name Attribute cons nil") => pure (κwa "xF")
theorem reject_ok {w : World} {k : Nat} {h₀ : Heap} {L : Addr} {A : Around} {m : Str → Option Value} {ro : List (Addr × Obj)} {s : Shared} {rl : Addr} {more : Bool} {Q E : Value → Shared → Prop}
    (S : Sit w (k + 1) h₀ L A) (F : Fr h₀ L s.heap m) (N : News h₀ L s.heap ro) (R : RulesAt w ro rl more)
    (ret : ∀ h' tk', Fr h₀ L h' m → News h₀ L h' ro → Q (.bool false) { s with heap := h', toks := tk' }) :
    wpAny (MD w) A (call (.ref 290) [.ref rl]) Q E s := by
  obtain ⟨r0, r1, s0, s1, x0, x1, t, ⟨n1, R1⟩, ⟨d0, a1, a2, a3, a4, a5, v1, v2, v3, v5, n2, A1, A2⟩, ⟨d1, b1, b2, b3, b4, b5, w1, w2, w3, w5, n3, B1, B2⟩, ⟨n4, C1⟩, ⟨n5, C2⟩, ⟨e0, f1, f2, t2, n6, D1, D2⟩, ⟨e1, g1, g2, t3, n7, E1, E2⟩⟩ := R
  have hw : wordOf more = Str.ofString "more" ∨ wordOf more = Str.ofString "echo" := by cases more; exact .inr rfl; exact .inl rfl
  generalize wordOf more = wd at *
  w_strict (
    refine fillK (w := w) ?_; k_fill; intro _ _
    k_dflt (refine enter [(Str.ofString "rules", _)] S F N (by k_is) (by k_is) (fun _ _ => BindsTo.of_eq rfl) (locs rfl) rfl rfl rfl (by decide) ?_)
    clear S F N
    intro dp un gd outer A₀ base loose mean mg mb g L' h₁ tk S B F X N lt T hd hu st
    k_fold
    (try k_lt lt)
    k_steps)
  unfold Hold
  k_dflt (refine iterLk (vs := [.ref r0, .ref r1]) (nn := n1) (fun _ _ => True) rfl (by k_asm) (by k_asm) R1 trivial ?turn ?done)
  case' done =>
    intro m₁ h tk hj F N
    (try dsimp only)
    w_strict k_steps
    refine EndK.of (by assumption) (by assumption) ?_
    intro kF kN
    exact ret _ _ kF kN
  case' turn =>
    intro i v m₁ I oI h tk hv hJ off F N
    have hv' : (v = .ref r0 ∨ v = .ref r1) := by
      match i, hv with
      | 0, hv => exact .inl (Option.some.inj hv).symm
      | 1, hv => exact .inr (Option.some.inj hv).symm
    clear hv
    rcases hv' with rfl | rfl
  · w_strict k_steps
    unfold Hold
    k_dflt (refine iterLk (vs := [.ref x0]) (nn := n4) (fun _ _ => True) rfl (by k_asm) (by k_asm) (.tail _ C1) trivial ?t2 ?d2)
    case' d2 =>
      intro m₁ h tk hj F N
      (try dsimp only)
      w_strict k_steps
    case' t2 =>
      intro i v m₁ I oI h tk hv hJ off F N
      have hv' : v = .ref x0 := by
        match i, hv with
        | 0, hv => exact (Option.some.inj hv).symm
      clear hv
      subst hv'
      w_strict k_steps
    all_goals exact TurnEnd.keep (by assumption) (by assumption) (fun _ h => h) (by assumption) trivial
  · w_strict k_steps
    unfold Hold
    k_dflt (refine iterLk (vs := [.ref x1]) (nn := n5) (fun _ _ => True) rfl (by k_asm) (by k_asm) (.tail _ C2) trivial ?t3 ?d3)
    case' d3 =>
      intro m₁ h tk hj F N
      (try dsimp only)
      w_strict k_steps
    case' t3 =>
      intro i v m₁ I oI h tk hv hJ off F N
      have hv' : v = .ref x1 := by
        match i, hv with
        | 0, hv => exact (Option.some.inj hv).symm
      clear hv
      subst hv'
      rcases hw with rfl | rfl
      all_goals w_strict k_steps
    all_goals exact TurnEnd.keep (by assumption) (by assumption) (fun _ h => h) (by assumption) trivial
end
end
section
section
variable {w : World} {A : Around} {E : Value → Shared → Prop} {s : Shared} {h₀ : Heap} {L d v : Addr} {m : Str → Option Value} {news : List (Addr × Obj)} {o : Obj} {kvs : List (Int × Value)}
theorem getv_D {pl : Sem Bool} {Q : Value × List Value → Shared → Prop} (N : News h₀ L s.heap news) (hd : o.IsDictOf (IK w) kvs) (hp : (d, o) ∈ news) (h : Q (.builtin "dict.values", [.ref d]) s) :
    wpAny (MD w) A (getMethod (.ref d) (Str.ofString "values") pl) Q E s := kob_method PySem.F.slot_dict_values PySem.F.type_dict_values N hp hd h
def viewOf (d : Addr) : Obj := { cls := .type "dict_values", data := .fields #[.ref d] }
theorem values_D {Q : Value → Shared → Prop} (F : Fr h₀ L s.heap m) (N : News h₀ L s.heap news) (hd : o.IsDictOf (IK w) kvs) (hp : (d, o) ∈ news) (lo : (d == sysModules) = false)
    (h : ∀ v h', Fr h₀ L h' m → News h₀ L h' ((v, viewOf d) :: news) → (∀ p ∈ news, p.1 < v) → Q (.ref v) { s with heap := h' }) :
    wpAny (MD w) A (call (.builtin "dict.values") [.ref d]) Q E s :=
  have hD := kda_dict N hp hd
  call_meetsIn PySem.F.slot_dict_values hD.typeIs PySem.F.entry_dict_values (PySem.F.args_dict_values_1 _) (meets_dict_values (IK w) d lo) ⟨⟨_, hD⟩, h _ _ (F.push _) (News.push F N _) fun p hp => Heap.lt_size (N p hp).1⟩
theorem setv_D {Q : Value → Shared → Prop} (F : Fr h₀ L s.heap m) (N : News h₀ L s.heap news) (hh : A.handled = none) (hv : (v, viewOf d) ∈ news) (hd : o.IsDictOf (IK w) []) (hp : (d, o) ∈ news)
    (h : ∀ x led h' tk', Fr h₀ L h' m → News h₀ L h' ((x, eset led) :: news) → (∀ p ∈ news, p.1 < x) → Q (.ref x) { s with heap := h', toks := tk' }) :
    wpAny (MD w) A (call (.type "set") [.ref v]) Q E s := by
  obtain ⟨ep, hD⟩ := Heap.DictOf.dictAt (kda_dict N hp hd)
  refine set_view hh ⟨_, (N _ hv).1, rfl, rfl⟩ hD fun h' tk led h1 h2 => ?_
  obtain ⟨oL, _, _, hL, _⟩ := F.ns
  have hLlt : L < s.heap.objs.size := Heap.lt_size hL
  refine h _ led h' tk ⟨F.ns.at' fun o' e => h2 L o' e, fun b o' e => h2 b o' (F.keep b o' e), F.above⟩ (fun p hp => ?_) fun p hp => Heap.lt_size (N p hp).1
  rcases List.mem_cons.mp hp with rfl | hp
  · refine ⟨h1, Nat.ne_of_gt hLlt, ?_⟩
    cases hq : h₀.get? s.heap.objs.size with
    | none => rfl
    | some o' => exact absurd (Heap.lt_size (F.keep _ _ hq)) (Nat.lt_irrefl _)
  · exact ⟨h2 _ _ (N p hp).1, (N p hp).2.1, (N p hp).2.2⟩
end
section
local macro_rules | `(tactic| walk_at "getMethod ref") => pure (κtC (κap `getMethod [κgr, (κap `PySem.Str.ofString [(κsl "values")]), κh_]) (κtA `getv_D [κqa, κqb, κqm, κq0]))
local macro_rules | `(tactic| walk_at "call builtin:dict.values") => pure (κtL (κtA `values_D [κqa, κqa, κqb, κqm, κqb, κq0]))
local macro_rules | `(tactic| walk_at "call type:set") => pure (κtL (κtA `setv_D [κqa, κqa, κqr, κqm, κqb, κqm, κq0]))
local macro_rules | `(tactic| walk_at "call builtin:sorted") => pure (κtL (κtA `sorted_eset [κqa, κqa, κqr, κqm, κq0]))
noncomputable section
namespace tables_new
def St : Prop := ∀ {w : World} {k : Nat} {h₀ : Heap} {L : Addr} {A : Around} {m : Str → Option Value} {ro : List (Addr × Obj)} {s : Shared} {a : TabA} {more : Bool} {Q E : Value → Shared → Prop} (S : Sit w (k + 4) h₀ L A) (F : Fr h₀ L s.heap m) (N : News h₀ L s.heap ro) (R : RulesAt w ro a.rl more) (D : DAt w ro a.ends []) (ret : ∀ x er h' tk' ro', Fr h₀ L h' m → News h₀ L h' ro' → Sub ro ro' → (∀ p ∈ ro, p.1 < x) → TablesAt w ro' x { a with er := er } → Q (.ref x) { s with heap := h', toks := tk' }),
    wpAny (MD w) A (call (.ref 279) [.ref a.cl, .ref a.nm, .ref a.he, .ref a.rl, .ref a.gv, .ref a.ends, .bool true]) Q E s
def G1 : {P : TabA → Bool → Obj → Addr → Addr → World → Heap → Addr → Around → SOV → LAO → Shared → VSP → VSP → Nat → Nat → (Option (List Code)) → (List Env) → Around → Heap → (List Str) → EOV → SOV → SOV → Heap → Addr → Heap → Nat → Prop // (∀ a more oe x dx w h₀ L A m ro s Q E dp un gd outer A₀ base loose mean mg mb g L' h₁ tk, P a more oe x dx w h₀ L A m ro s Q E dp un gd outer A₀ base loose mean mg mb g L' h₁ tk) → St} := ⟨_, by
  intro hh w k h₀ L A m ro s a more Q E S F N R D ret
  refine lessK S ?_
  clear S k; intro S
  obtain ⟨oe, D1, D2, D3⟩ := D
  refine fillK (w := w) ?_; k_fill; intro _ _
  k_dflt (refine enterI (fun x => [(Str.ofString "self", x), (Str.ofString "classes", _), (Str.ofString "names", _), (Str.ofString "automata", _), (Str.ofString "rules", _), (Str.ofString "cuts", _), (Str.ofString "ends", _), (Str.ofString "has_default", _)]) S F N (by k_is) (by k_is) (by k_is) (by k_is) (by k_is) (fun _ _ _ => BindsTo.of_eq rfl) (fun _ => locs rfl) rfl rfl rfl (by decide) ?_)
  clear S F N
  intro x dx dp un gd outer A₀ base loose mean mg mb g L' h₁ tk S B F X N lt l1 l2 T hd hu st
  rename_i ξ1 ξ2
  clear ξ1 ξ2
  revert R ret D1 D2 D3 S B F X N lt l1 l2 T hd hu st
  exact hh a more oe x dx w h₀ L A m ro s Q E dp un gd outer A₀ base loose mean mg mb g L' h₁ tk⟩
def R1 (ξ : Cx × (((TabA × Bool) × Obj) × (Addr × Addr))) := fun x dx w => G1.1 ξ.2.1.1.1 ξ.2.1.1.2 ξ.2.1.2 x dx w ξ.1.h₀ ξ.1.L ξ.1.A ξ.1.m ξ.1.ro ξ.1.s ξ.1.Q ξ.1.E ξ.1.dp ξ.1.un ξ.1.gd ξ.1.outer ξ.1.A₀ ξ.1.base ξ.1.loose ξ.1.mean ξ.1.mg ξ.1.mb ξ.1.g ξ.1.L' ξ.1.h₁ ξ.1.tk
def P1 (ξ : Cx × (((TabA × Bool) × Obj) × (Addr × Addr))) : Prop := R1 ξ ξ.2.2.1 ξ.2.2.2 ξ.1.w
@[irreducible] def z1 : Cx × (((TabA × Bool) × Obj) × (Addr × Addr)) := ep P1 (by walk_at "ne")
@[irreducible] def x := z1.2.2.1
@[irreducible] def dx := z1.2.2.2
@[irreducible] def w := z1.1.w
theorem m1 : R1 z1 x dx w := by
  intro R ret D1 D2 D3 S B F X N lt l1 l2 T hd hu st
  w_strict (
    refine fillK (w := w) ?_; k_fill; intro _ _
    k_fold
    have l1' := l1
    (try k_lt l1); (try k_lt2 l2)
    k_steps)
  have l2' : @LT.lt Nat _ dx x := l2
  k_dflt (refine reject_ok (k := 0) (by walk_at "xS") (by k_asm) (by k_asm) (R.sub (by walk_at "sub tail")) ?_)
  intro h5 tk5 F5 N5
  k_sweep
  w_strict k_steps
  refine EndK.of (by assumption) (by assumption) ?_
  intro kF kN
  rename_i D7 _ _ _ _ _ _ _ _ _
  refine ⟨rfl, ret x D7 _ _ _ kF kN ?_ ?_ ?_⟩
  · exact (fun p hp => .tail _ (.tail _ (.tail _ (.tail _ (.tail _ hp)))))
  · exact (fun p hp => Nat.lt_trans (l1' p hp) l2')
  · exact ⟨dx, _, _, _, _, _, _, _, _, _, _, .tail _ (.tail _ (.tail _ (.head _))), .tail _ (.tail _ (.tail _ (.tail _ (.head _))))⟩
end tables_new
end
theorem tables_new : tables_new.St := tables_new.G1.2 (fun a more oe x dx w h₀ L A m ro s Q E dp un gd outer A₀ base loose mean mg mb g L' h₁ tk => @ep_go _ tables_new.P1 _ _ (by with_unfolding_all exact tables_new.m1) ((⟨m, ro, Q, E, s, A, L, h₀, 0, w, dp, un, gd, outer, A₀, base, loose, mean, mg, mb, g, L', h₁, tk⟩ : Cx), (((a, more), oe), (x, dx))) (by kernel_rfl))
end
end
/-- the ledger without its cells -/
def notCell (o : Obj) : Bool := match o.data with | .cell _ => false | _ => true
def nc (r : List (Addr × Obj)) : List (Addr × Obj) := r.filter fun p => notCell p.2
theorem nc_mem {r : List (Addr × Obj)} {p : Addr × Obj} (h : p ∈ r) (e : notCell p.2 = true) : p ∈ nc r := List.mem_filter.mpr ⟨h, e⟩
theorem nc_sub {r : List (Addr × Obj)} {p : Addr × Obj} (h : p ∈ nc r) : p ∈ r := (List.mem_filter.mp h).1
theorem nc_off {h₀ h : Heap} {L c : Addr} {oc : Obj} {r : List (Addr × Obj)} (N : News h₀ L h r) (hc : (c, oc) ∈ r) (e : notCell oc = false) : ∀ p ∈ nc r, p.1 ≠ c := fun p hp q => by
  have h1 := List.mem_filter.mp hp
  have h2 : p.2 = oc := same_obj N (a := c) (by rw [← q]; exact h1.1) hc
  have h3 := h1.2
  rw [h2, e] at h3
  cases h3
theorem ListAt.nc {r : List (Addr × Obj)} {a : Addr} {vs : List Value} (x : ListAt r a vs) : ListAt (nc r) a vs := let ⟨n, h⟩ := x; ⟨n, nc_mem h rfl⟩
theorem TupAt.nc {r : List (Addr × Obj)} {a : Addr} {vs : List Value} (x : TupAt r a vs) : TupAt (nc r) a vs := nc_mem x rfl
theorem IntsAt.nc {r : List (Addr × Obj)} {a : Addr} {ns : List Int} (x : IntsAt r a ns) : IntsAt (nc r) a ns := let ⟨vs, h, e⟩ := x; ⟨vs, h.nc, e⟩
theorem TupIntsAt.nc {r : List (Addr × Obj)} {a : Addr} {ns : List Int} (x : TupIntsAt r a ns) : TupIntsAt (nc r) a ns := let ⟨vs, h, e⟩ := x; ⟨vs, h.nc, e⟩
theorem AutoAt.nc {r : List (Addr × Obj)} {a : Addr} {ns ms : List (List Int)} (x : AutoAt r a ns ms) : AutoAt (nc r) a ns ms :=
  let ⟨R, T, h, ⟨rs, h1, e1⟩, ⟨ts, h2, e2⟩⟩ := x; ⟨R, T, h.nc, ⟨rs, h1.nc, e1.imp fun _ _ y => y.nc⟩, ⟨ts, h2.nc, e2.imp fun _ _ y => y.nc⟩⟩
theorem CutAt.nc {r : List (Addr × Obj)} {a : Addr} {bh : Bool} {n : Int} (x : CutAt r a bh n) : CutAt (nc r) a bh n := let ⟨t, u, h⟩ := x; ⟨t, u, h.nc⟩
theorem StepObj.nc {w : World} {r : List (Addr × Obj)} {x : Addr} {a : Str} {v : Value} (h : StepObj w r x a v) : StepObj w (nc r) x a v := by
  obtain ⟨dx, k1, k2, t, n, p, q⟩ := h
  exact ⟨dx, k1, k2, t, n, nc_mem p rfl, nc_mem q rfl⟩
section
variable {prog : Program} {w : World} {A : Around} {E : Value → Shared → Prop} {s s₁ : Shared} {h₀ : Heap} {L : Addr} {m : Str → Option Value} {env : Env}
  {ct elt iter : Expr} {x : Str} {px : Pos} {scope : Scope} {cl : List (Str × Addr)} {pos : Pos}
/-- a comprehension with one test over a tuple -/
def SrcTT (prog : Program) (w : World) (A : Around) (h₀ : Heap) (L : Addr) (m : Str → Option Value) (env : Env) (ct elt : Expr) (x : Str) (scope : Scope) (cl : List (Str × Addr)) (Fin : Shared → List Value → List (Addr × Obj) → Prop) (xv : Value) (s₁ : Shared) : Prop :=
  Drawn prog w A h₀ L m (fun s₂ S P n news => LCt.CompRestT prog w A h₀ L m env ct elt x scope cl s₂ S P (Fin s₂) n 0 [] news) xv s₁
theorem SrcTT.tuple {Fin : Shared → List Value → List (Addr × Obj) → Prop} {ax : Addr} {vs : List Value} {k : Nat} {news : List (Addr × Obj)}
    (hh : A.handled = none) (F : Fr h₀ L s₁.heap m) (N : News h₀ L s₁.heap news) (hm : (ax, ({ cls := .type "tuple", data := .seq vs.toArray k } : Obj)) ∈ news) (hsz : vs.length ≤ 1000)
    (h : ∀ g, LCt.CompRestT prog w A h₀ L m env ct elt x scope cl { s₁ with heap := g } (TupSrc ax vs.toArray) (fun i v => vs[i]? = some v) (Fin { s₁ with heap := g }) vs.length 0 [] news) :
    SrcTT prog w A h₀ L m env ct elt x scope cl Fin (.ref ax) s₁ :=
  ⟨_, _, _, news, opens_tuple hh N ⟨k, hm⟩, F, N, ⟨k, hm⟩, by rw [PySem.sizeLine_eq, List.size_toArray]; lia, fun g => by simpa using h g⟩
theorem ListComp_TT {Q : Value → Shared → Prop} (_F₀ : Fr h₀ L s.heap m) (hclos : closureFor scope env = pure cl) (hcell : ∀ y ∈ scope.names, y.2 ≠ .cell) (hkind : scope.kind = .function)
    (hnames : ∀ y ∈ scope.names, y.2 = .local → scope.names.lookup y.1 = some .local) (hx : scope.names.lookup x = some .local)
    (h : wpAny (model prog w) A (eval iter env) (SrcTT prog w A h₀ L m env ct elt x scope cl (fun s₂ => LCg.FinE h₀ L m s₂ Q)) E s)
    (hs : ∀ x, foldedSetIterable iter env x = pure x := by intro _; rfl) : wpAny (model prog w) A (eval (.ListComp elt [⟨.Name x px, iter, [ct], 0⟩] scope pos) env) Q E s := by
  rw [eval_ListComp]
  refine wpAny_comprehension_free (use := none) rfl hs hclos hkind hnames (wpAny_mono h (fun xv s₁ c => ?_) fun _ _ e => e)
  obtain ⟨n, P, S, news, ⟨o, fp, St, go, W, one, stay, st0, le⟩, F, N, hS, hsz, R⟩ := c
  have up : ∀ b q, s₁.heap.get? b = some q → (s₁.heap.push o).get? b = some q := fun _ _ e => Heap.get?_push_of_some _ e
  exact go _ _ (LCt.block_T W hsz one stay hcell hkind hx st0 (fun b hb => by rw [Heap.size_push]; exact Nat.lt_succ_of_le (le b hb)) (F.keeps up) (N.grown up) (Nat.ne_of_lt F.ns.lt) F.fresh N.apart hS (R _)
    fun D _ _ tk m' _ _ F' N' o1 hn hC _ hCL _ hCD off fin => ⟨m', hn, fun _ b => fin D _ tk (F'.change b hCL hC) (gone N' hCD off b) o1⟩)
end
local macro_rules | `(tactic| walk_at "SrcTT") => pure (κhol)
local macro_rules | `(tactic| walk_at "eval ListComp") => pure (κpa [κhr, (κta `PySem.W.tacticLct_look "lct_look" []), κtD `ListComp_TT [(κna `_F₀ κqa), κqu, κqd, κqr, κqd, κqr, κq0]])
/-- pairs of an int and a value, each a tuple of the ledger -/
inductive PairsAt (ro : List (Addr × Obj)) : List Value → List (Int × Value) → Prop
  | nil : PairsAt ro [] []
  | cons {a : Addr} {t : Tok} {k : Int} {v : Value} {vs : List Value} {kvs : List (Int × Value)} : (a, ({ cls := .type "tuple", data := .seq #[.int k t, v] } : Obj)) ∈ ro → PairsAt ro vs kvs → PairsAt ro (.ref a :: vs) ((k, v) :: kvs)
theorem PairsAt.sub {r r' : List (Addr × Obj)} (s : ∀ p ∈ r, p ∈ r') : ∀ {vs : List Value} {kvs : List (Int × Value)}, PairsAt r vs kvs → PairsAt r' vs kvs
  | _, _, .nil => .nil
  | _, _, .cons h t => .cons (s _ h) (t.sub s)
theorem PairsAt.snoc {r : List (Addr × Obj)} {a : Addr} {t : Tok} {k : Int} {v : Value} (h : (a, ({ cls := .type "tuple", data := .seq #[.int k t, v] } : Obj)) ∈ r) : ∀ {vs : List Value} {kvs : List (Int × Value)}, PairsAt r vs kvs → PairsAt r (vs ++ [.ref a]) (kvs ++ [(k, v)])
  | _, _, .nil => .cons h .nil
  | _, _, .cons g t => .cons g (t.snoc h)
theorem PairsAt.length {r : List (Addr × Obj)} : ∀ {vs : List Value} {kvs : List (Int × Value)}, PairsAt r vs kvs → vs.length = kvs.length
  | _, _, .nil => rfl
  | _, _, .cons _ t => congrArg (· + 1) t.length
theorem PairsAt.at {r : List (Addr × Obj)} : ∀ {vs : List Value} {kvs : List (Int × Value)}, PairsAt r vs kvs → ∀ (i : Nat) (v : Value), vs[i]? = some v → ∃ (a : Addr) (t : Tok) (p : Int × Value), kvs[i]? = some p ∧ v = .ref a ∧ (a, ({ cls := .type "tuple", data := .seq #[.int p.1 t, p.2] } : Obj)) ∈ r
  | _, _, .nil, _, _, h => by simp at h
  | _, _, .cons (a := a) (t := t) (k := k) (v := v) m _, 0, _, e => by simp at e; subst e; exact ⟨a, t, (k, v), rfl, rfl, m⟩
  | _, _, .cons _ u, i + 1, _, e => by simp at e; simpa using u.at i _ e
theorem dict_pairs {w : World} {A : Around} {E : Value → Shared → Prop} {s : Shared} {h₀ : Heap} {L : Addr} {m : Str → Option Value} {news : List (Addr × Obj)} {l : Addr} {vs : List Value} {n : Nat} {kvs : List (Int × Value)} {Q : Value → Shared → Prop} (hA : A.handled = none) (hbig : sysModules < h₀.objs.size)
    (F : Fr h₀ L s.heap m) (N : News h₀ L s.heap news) (hl : (l, W.listOf vs.toArray n) ∈ news) (hP : PairsAt news vs kvs) (hnd : (kvs.map (·.1)).Nodup) (hsz : kvs.length ≤ 1000)
    (h : ∀ d h' tk' ro', Fr h₀ L h' m → News h₀ L h' ro' → (∀ p ∈ news, p ∈ ro') → DAt w ro' d kvs → Q (.ref d) { s with heap := h', toks := tk' }) :
    wpAny (MD w) A (call (.type "dict") [.ref l]) Q E s :=
  dict_ok hA hbig F N hl hP.length hnd (by rw [PySem.sizeLine_eq]; lia) hP.at fun d o h' tk' F' N' hs hd ho => h d h' tk' ((d, o) :: news) F' N' (fun _ hp => .tail _ hp) ⟨o, .head _, hd, hs⟩
section
variable {prog : Program} {w : World} {A : Around} {h₀ : Heap} {L : Addr} {m : Str → Option Value} {env : Env} {ct elt : Expr} {x : Str} {scope : Scope} {cl : List (Str × Addr)} {s : Shared} {S : List (Addr × Obj) → Prop} {P : Nat → Value → Prop} {Fin : List Value → List (Addr × Obj) → Prop}
theorem compRestT_ind {n : Nat} {news : List (Addr × Obj)} (J : Nat → List Value → List (Addr × Obj) → Prop)
    (hj : J 0 [] news) (turn : ∀ i ys nw v I oI C oC D m₂ h tk (E' : Value → Shared → Prop), i < n → J i ys nw → P i v → LCg.NsObj oC m₂ → m₂ x = some v → Fr h₀ L h m → News h₀ L h ((I, oI) :: (C, oC) :: (D, LCg.lst ys) :: nw) → LCg.Off3 I C D nw → ((@Ne Nat I C) ∧ (@Ne Nat I D) ∧ (@Ne Nat C D)) →
      wpAny (model prog w) A (isTrue ct (compEnvC scope cl C env) (eval ct (compEnvC scope cl C env))) (fun ok s' => if ok = true then
        wpAny (model prog w) A (eval elt (compEnvC scope cl C env)) (LCg.CompEnd h₀ L m { s with heap := h, toks := tk } I oI C oC D (LCg.lst ys) S (fun y nw' => J (i + 1) (ys ++ [y]) nw')) E' s'
        else LCg.CompEnd h₀ L m { s with heap := h, toks := tk } I oI C oC D (LCg.lst ys) S (fun _ nw' => J (i + 1) ys nw') Value.none s') E' { s with heap := h, toks := tk })
    (fin : ∀ ys nw, J n ys nw → Fin ys nw) : LCt.CompRestT prog w A h₀ L m env ct elt x scope cl s S P Fin n 0 [] news := by
  have key : ∀ (j i : Nat) (ys : List Value) (nw : List (Addr × Obj)), i + j = n → J i ys nw → LCt.CompRestT prog w A h₀ L m env ct elt x scope cl s S P Fin j i ys nw := by
    intro j
    induction j with
    | zero => intro i ys nw hi hJ; exact LCt.CompRestT.zero (fin _ _ (by have e : i = n := by lia
                                                                         exact e ▸ hJ))
    | succ j ih =>
      intro i ys nw hi hJ
      refine LCt.CompRestT.succ ?_
      intro v I oI C oC D m₂ h tk E' hv hC hx F N off ne
      refine wpAny_mono (turn i ys nw v I oI C oC D m₂ h tk E' (by lia) hJ hv hC hx F N off ne) (fun ok s₂ hq => ?_) fun _ _ e => e
      cases ok with
      | true =>
        simp only [if_true] at hq ⊢
        refine wpAny_mono hq (fun y s₃ hr => ?_) fun _ _ e => e
        obtain ⟨h', tk', nw', e, F', N', off', hS, hn⟩ := hr
        exact ⟨h', tk', nw', e, F', N', off', hS, ih (i + 1) _ _ (by lia) hn⟩
      | false =>
        simp only [Bool.false_eq_true, if_false] at hq ⊢
        obtain ⟨h', tk', nw', e, F', N', off', hS, hn⟩ := hq
        exact ⟨h', tk', nw', e, F', N', off', hS, ih (i + 1) _ _ (by lia) hn⟩
  exact key n 0 [] news (by lia) hj
end
/-- a cut against the empty cut -/
theorem ne_cut {prog : Program} {w : World} {A : Around} {E : Value → Shared → Prop} {s : Shared} {h₀ : Heap} {L c d : Addr} {news : List (Addr × Obj)} {bh : Bool} {n : Int} {t u t' u' : Tok} {Q : Value → Shared → Prop} (N : News h₀ L s.heap news)
    (hc : (c, ({ cls := .type "tuple", data := .seq #[.str (wayOf bh) t, .int n u] } : Obj)) ∈ news) (hd : (d, ({ cls := .type "tuple", data := .seq #[.str (Str.ofString "behind") t', .int 0 u'] } : Obj)) ∈ news) (hu : A.units + 64 < cLine)
    (h : Q (.bool (!(bh && decide (n = 0)))) s) : wpAny (model prog w) A (compareOp .NotEq (.ref c) (.ref d)) Q E s := by
  have ra : Reads s.heap (.ref c) (.tuple [.str (wayOf bh), .int n]) [] := reads_tuple_at (News.get N hc) rfl rfl (.cons (.str _ _) (.cons (.int _ _) .nil))
  have rb : Reads s.heap (.ref d) (.tuple [.str (Str.ofString "behind"), .int 0]) [] := reads_tuple_at (News.get N hd) rfl rfl (.cons (.str _ _) (.cons (.int _ _) .nil))
  have e1 : PyData.strOk (Str.ofString "behind") = true := by decide +kernel
  have e2 : PyData.strOk (wayOf bh) = true := by cases bh <;> decide +kernel
  have e3 : PySem.SeqAt.shaped (.tuple [.str (wayOf bh), .int n]) = true := by simp [PySem.SeqAt.shaped, PyData.canLay0, PyData.canLayAll0, PyData.depth, PyData.depthAll, e2]
  have e4 : PySem.SeqAt.shaped (.tuple [.str (Str.ofString "behind"), .int 0]) = true := by simp [PySem.SeqAt.shaped, PyData.canLay0, PyData.canLayAll0, PyData.depth, PyData.depthAll, e1]
  refine ne_dataH ra rb e3 e4 hu ?_
  have e5 : PyData.eqv (.tuple [.str (wayOf bh), .int n]) (.tuple [.str (Str.ofString "behind"), .int 0]) = (bh && decide (n = 0)) := by
    have e6 : (wayOf bh == Str.ofString "behind") = bh := by cases bh <;> decide +kernel
    simp only [PyData.eqv, PyData.eqvAll, e6, Bool.and_true]
    by_cases hn : n = 0
    · simp [hn]
    · simp [hn]
  rw [e5]
  exact h
inductive GivJ (w : World) (R : List (Addr × Obj)) (cuts : Int → Bool × Int) (i : Nat) (ys : List Value) (nw : List (Addr × Obj)) : Prop
  | mk : ∀ kvs : List (Int × Value), (Sub R nw) → (PairsAt nw ys kvs) → ((kvs.map (·.1)).Nodup) → ((∀ p ∈ kvs, p.1 < i)) → (kvs.length ≤ i) → (∀ j : Int, 0 ≤ j → j < i → (valueAt kvs j = none ∧ cuts j = (true, 0)) ∨ ∃ c, valueAt kvs j = some (.ref c) ∧ CutObj w nw c (cuts j).1 (cuts j).2) → GivJ w R cuts i ys nw
theorem value_none {kvs : List (Int × Value)} {i : Int} (h : ∀ p ∈ kvs, p.1 < i) : valueAt kvs i = none := by
  unfold valueAt
  rw [List.find?_eq_none.mpr fun p hp => by have := h p hp; simp; lia]
  rfl
theorem value_snoc {kvs : List (Int × Value)} {i j : Int} {v : Value} (h : j ≠ i) : valueAt (kvs ++ [(i, v)]) j = valueAt kvs j := by
  unfold valueAt
  rw [List.find?_append]
  have : List.find? (fun kv : Int × Value => decide (kv.1 = j)) [(i, v)] = none := by simp; lia
  rw [this, Option.or_none]
theorem value_last {kvs : List (Int × Value)} {i : Int} {v : Value} (h : ∀ p ∈ kvs, p.1 < i) : valueAt (kvs ++ [(i, v)]) i = some v := by
  unfold valueAt
  rw [List.find?_append, List.find?_eq_none.mpr fun p hp => by have := h p hp; simp; lia]
  simp
theorem GivJ.zero {w : World} {R : List (Addr × Obj)} {cuts : Int → Bool × Int} : GivJ w R cuts 0 [] R := ⟨[], Sub.refl _, .nil, List.nodup_nil, fun p hp => absurd hp List.not_mem_nil, Nat.le_refl _, fun j h1 h2 => absurd (Int.lt_of_le_of_lt h1 h2) (Int.lt_irrefl 0)⟩
theorem GivJ.skip {w : World} {R nw : List (Addr × Obj)} {cuts : Int → Bool × Int} {i : Nat} {ys : List Value} (x : GivJ w R cuts i ys nw) (hc : cuts (i : Int) = (true, 0)) : GivJ w R cuts (i + 1) ys nw := by
  obtain ⟨kvs, a, b, c, d, e, f⟩ := x
  refine ⟨kvs, a, b, c, fun p hp => by have := d p hp; lia, by lia, fun j h1 h2 => ?_⟩
  by_cases hj : j = (i : Int)
  · subst hj
    exact .inl ⟨value_none d, hc⟩
  · exact f j h1 (by lia)
theorem GivJ.add {w : World} {R nw nw' : List (Addr × Obj)} {cuts : Int → Bool × Int} {i : Nat} {ys : List Value} {a c : Addr} {t : Tok} (x : GivJ w R cuts i ys nw) (s : Sub nw nw') (hm : (a, ({ cls := .type "tuple", data := .seq #[.int (i : Int) t, .ref c] } : Obj)) ∈ nw') (hc : CutObj w nw' c (cuts i).1 (cuts i).2) :
    GivJ w R cuts (i + 1) (ys ++ [.ref a]) nw' := by
  obtain ⟨kvs, sr, b, nd, d, e, f⟩ := x
  refine ⟨kvs ++ [((i : Int), .ref c)], sr.trans s, (b.sub s).snoc hm, ?_, fun p hp => ?_, by simp; lia, fun j h1 h2 => ?_⟩
  · rw [List.map_append, List.nodup_append]
    refine ⟨nd, by simp, fun y hy z hz => ?_⟩
    obtain ⟨p, hp, rfl⟩ := List.mem_map.mp hy
    have := d p hp
    simp at hz
    lia
  · rcases List.mem_append.mp hp with h | h
    · have := d p h; lia
    · rw [List.mem_singleton.mp h]; simp only; lia
  · by_cases hj : j = (i : Int)
    · subst hj
      exact .inr ⟨c, value_last d, hc⟩
    · rcases f j h1 (by lia) with ⟨p, q⟩ | ⟨c', p, q⟩
      · exact .inl ⟨(value_snoc hj).trans p, q⟩
      · exact .inr ⟨c', (value_snoc hj).trans p, q.sub s⟩
theorem GivJ.fin {w : World} {R nw : List (Addr × Obj)} {cuts : Int → Bool × Int} {ys : List Value} (x : GivJ w R cuts 2 ys nw) : ∃ kvs : List (Int × Value), Sub R nw ∧ PairsAt nw ys kvs ∧ (kvs.map (·.1)).Nodup ∧ kvs.length ≤ 1000 ∧ ys.length ≤ 1000 ∧ ∀ nw' gd, Sub nw nw' → DAt w nw' gd kvs → GivenAt w nw' gd cuts := by
  obtain ⟨kvs, sr, b, nd, d, e, f⟩ := x
  refine ⟨kvs, sr, b, nd, by lia, by rw [b.length]; lia, fun nw' gd s hd => ⟨kvs, hd, fun i hi => ?_⟩⟩
  rcases f i (by lia) (by lia) with h | ⟨c, p, q⟩
  · exact .inl h
  · exact .inr ⟨c, p, q.sub s⟩
theorem GivJ.sb {w : World} {R nw : List (Addr × Obj)} {cuts : Int → Bool × Int} {i : Nat} {ys : List Value} (x : GivJ w R cuts i ys nw) : Sub R nw := by obtain ⟨_, a, _⟩ := x; exact a
theorem cut_empty {bh : Bool} {n : Int} (h : (bh && decide (n = 0)) = true) : (bh, n) = (true, (0 : Int)) := by
  rw [Bool.and_eq_true] at h
  rw [h.1, of_decide_eq_true h.2]
/-- comparisons of equal data -/
theorem ne_same {prog : Program} {w : World} {A : Around} {E : Value → Shared → Prop} {s : Shared} {a b : Value} {d : PyData} {as bs : List Addr} {Q : Value → Shared → Prop} (ra : Reads s.heap a d as) (rb : Reads s.heap b d bs) (hd : PySem.SeqAt.shaped d = true) (hu : A.units + 64 < cLine)
    (h : Q (.bool false) s) : wpAny (model prog w) A (compareOp .NotEq a b) Q E s :=
  ne_dataH ra rb hd hd hu (by rw [PySem.SeqAt.eqv_refl d (PySem.SeqAt.canLay_of_shaped hd)]; exact h)
theorem eq_same {prog : Program} {w : World} {A : Around} {E : Value → Shared → Prop} {s : Shared} {a b : Value} {d : PyData} {as bs : List Addr} {Q : Value → Shared → Prop} (ra : Reads s.heap a d as) (rb : Reads s.heap b d bs) (hd : PySem.SeqAt.shaped d = true) (hu : A.units + 64 < cLine)
    (h : Q (.bool true) s) : wpAny (model prog w) A (compareOp .Eq a b) Q E s :=
  eq_dataH ra rb hd hd hu (by rw [PySem.SeqAt.eqv_refl d (PySem.SeqAt.canLay_of_shaped hd)]; exact h)
def turnD (t : Turn) : PyData := .tuple [.int t.number, .int t.start, .int t.stop]
def tokD (x : Str) : PyData := .tuple [.str (Str.ofString "A"), .str x]
theorem reads_turns {h₀ h : Heap} {L : Addr} {ro : List (Addr × Obj)} (N : News h₀ L h ro) : ∀ {ta : List Addr} {ts : List Turn}, Each (TurnAt ro) ta ts → ReadsAll h (ta.map Value.ref) (ts.map turnD) []
  | _, _, .nil => .nil
  | _, _, .cons (a := a) (x := t) ⟨t1, t2, t3, hT⟩ r => by
    have h1 : Reads h (.ref a) (turnD t) [] := reads_tuple_at (News.get N hT) rfl rfl (.cons (.int _ _) (.cons (.int _ _) (.cons (.int _ _) .nil)))
    exact ReadsAll.cons h1 (reads_turns N r)
theorem reads_toks {h₀ h : Heap} {L : Addr} {ro : List (Addr × Obj)} (N : News h₀ L h ro) : ∀ {ta : List Addr} {ts : List Str}, Each (TokAt ro) ta ts → ReadsAll h (ta.map Value.ref) (ts.map tokD) []
  | _, _, .nil => .nil
  | _, _, .cons (a := a) (x := t) ⟨t1, t2, hT⟩ r => by
    have h1 : Reads h (.ref a) (tokD t) [] := reads_tuple_at (News.get N hT) rfl rfl (.cons (.str _ _) (.cons (.str _ _) .nil))
    exact ReadsAll.cons h1 (reads_toks N r)
theorem reads_L {h₀ h : Heap} {L : Addr} {ro : List (Addr × Obj)} (N : News h₀ L h ro) {a : Addr} {vs : List Value} {ds : List PyData} (hl : ListAt ro a vs) (hr : ReadsAll h vs ds []) : Reads h (.ref a) (.list ds) [a] := by
  obtain ⟨n, hm⟩ := hl
  exact reads_list_at (News.get N hm) rfl rfl hr
theorem shaped_list {α : Type} (f : α → PyData) (xs : List α) (h1 : ∀ x ∈ xs, (f x).canLay0 = true) (h2 : ∀ x, (f x).depth ≤ 1) : PySem.SeqAt.shaped (.list (xs.map f)) = true := by
  have c : PyData.canLayAll0 (xs.map f) = true := by
    clear h2
    induction xs with
    | nil => simp [PyData.canLayAll0]
    | cons x r ih => simp only [List.map_cons, PyData.canLayAll0, h1 x (.head _), ih (fun y hy => h1 y (.tail _ hy)), Bool.and_self]
  clear h1
  have d : PyData.depthAll (xs.map f) ≤ 1 := by
    clear c
    induction xs with
    | nil => simp [PyData.depthAll]
    | cons x r ih =>
      have := h2 x
      simp only [List.map_cons, PyData.depthAll]
      lia
  show (PyData.canLay0 (.list (xs.map f)) && decide (PyData.depth (.list (xs.map f)) ≤ 64)) = true
  rw [Bool.and_eq_true]
  exact ⟨by simp only [PyData.canLay0]; exact c, decide_eq_true (by simp only [PyData.depth]; lia)⟩
theorem shaped_turns (ts : List Turn) : PySem.SeqAt.shaped (.list (ts.map turnD)) = true := shaped_list _ ts (fun _ _ => by simp [turnD, PyData.canLay0, PyData.canLayAll0]) (fun x => by simp [turnD, PyData.depth, PyData.depthAll])
theorem shaped_toks (ts : List Str) (h : ∀ x ∈ ts, PyData.strOk x = true) : PySem.SeqAt.shaped (.list (ts.map tokD)) = true := shaped_list _ ts (fun x hx => by
  have e : PyData.strOk (Str.ofString "A") = true := by decide +kernel
  simp [tokD, PyData.canLay0, PyData.canLayAll0, h x hx, e]) (fun x => by simp [tokD, PyData.depth, PyData.depthAll])
theorem shaped_strs (ts : List Str) (h : ∀ x ∈ ts, PyData.strOk x = true) : PySem.SeqAt.shaped (.list (ts.map PyData.str)) = true := shaped_list _ ts (fun x hx => by simp [PyData.canLay0, h x hx]) (fun x => by simp [PyData.depth])
theorem ok_slice {x : Str} (h : PyData.strOk x = true) (l u : Option Int) : PyData.strOk (PySem.Txt.slice x l u) = true := by
  unfold PySem.Txt.slice
  split
  · exact h
  · unfold PyData.strOk at h ⊢
    rw [List.all_toArray, List.all_eq_true]
    intro c hc
    obtain ⟨i, _, hi⟩ := List.mem_filterMap.mp hc
    have := Array.all_eq_true_iff_forall_mem.mp h c (Array.mem_of_getElem? hi)
    exact this
theorem ok_text (cs : List Nat) : PyData.strOk (textOf cs) = true := by
  unfold PyData.strOk textOf
  rw [List.all_toArray, List.all_eq_true]
  intro c hc
  obtain ⟨i, _, rfl⟩ := List.mem_map.mp hc
  unfold cpOf
  split
  · decide
  · split <;> decide
theorem ok_append {x y : Str} (h : PyData.strOk x = true) (k : PyData.strOk y = true) : PyData.strOk (x ++ y) = true := by
  unfold PyData.strOk at h k ⊢
  show (x.cps ++ y.cps).all _ = true
  rw [Array.all_append, h, k]; rfl
theorem ok_part (cs : List Nat) (b e : Nat) : PyData.strOk (partOf cs b e) = true := ok_slice (ok_text cs) _ _
theorem ok_tokens (cs : List Nat) : ∀ ts : List Turn, ∀ x ∈ tokensD cs ts, PyData.strOk x = true
  | [], x, h => by simp [tokensD] at h
  | t :: r, x, h => by
    unfold tokensD at h
    split at h
    · rcases List.mem_cons.mp h with rfl | h
      · exact ok_part _ _ _
      · exact ok_tokens cs r x h
    · exact ok_tokens cs r x h
theorem ok_head (n : Int) : PyData.strOk (headOf n) = true := by
  unfold headOf
  split
  · decide +kernel
  · split <;> decide +kernel
theorem ok_line (cs : List Nat) (n b e : Int) : PyData.strOk (lineOf (textOf cs) n b e) = true :=
  ok_append (ok_append (ok_append (ok_head n) (by decide +kernel)) (ok_slice (ok_text cs) _ _)) (by decide +kernel)
/-- the turns lie one behind the other -/
theorem due_chain {a : Autos} {cuts : Int → Bool × Int} {more : Bool} {cs : List Nat} (o0 : AutoOk (a.rows 0) (a.tags 0)) (o1 : AutoOk (a.rows 1) (a.tags 1)) : ∀ {n pos first : Nat}, pos ≤ cs.length → cs.length ≤ pos + n →
    (pos : Int) :: (dueD a cuts more cs n pos first).map (fun t => (t.stop : Int)) = (dueD a cuts more cs n pos first).map (fun t => (t.start : Int)) ++ [(cs.length : Int)]
  | 0, pos, first, h1, h2 => by
    have : pos = cs.length := by lia
    simp [dueD, this]
  | n + 1, pos, first, h1, h2 => by
    unfold dueD
    split
    · rename_i hp
      have b := pick_bounds (cuts := cuts) o0 o1 hp
      have b1 : (pickD a cuts cs pos).2.toNat ≤ cs.length := by have := b.2.2; lia
      have b2 : cs.length ≤ (pickD a cuts cs pos).2.toNat + n := by have := b.2.1; lia
      have ih := due_chain o0 o1 (more := more) (cuts := cuts) (n := n) (pos := (pickD a cuts cs pos).2.toNat) (first := if (pickD a cuts cs pos).1 = 1 ∧ more = true then first else (pickD a cuts cs pos).2.toNat) b1 b2
      simp only [List.map_cons, List.cons_append]
      exact congrArg _ ih
    · have : pos = cs.length := by lia
      simp [this]
theorem join_text : ∀ cs : List Nat, Str.join (Str.ofString "") (cs.map fun c => textOf [c]) = textOf cs
  | [] => rfl
  | [c] => rfl
  | c :: d :: r => by
    have ih := join_text (d :: r)
    show textOf [c] ++ Str.ofString "" ++ Str.join (Str.ofString "") ((d :: r).map fun c => textOf [c]) = _
    rw [ih]
    show (⟨(textOf [c]).cps ++ (Str.ofString "").cps ++ (textOf (d :: r)).cps⟩ : Str) = _
    have e : (Str.ofString "").cps = #[] := by decide +kernel
    rw [e]
    simp [textOf]
theorem join_any {prog : Program} {w : World} {A : Around} {E : Value → Shared → Prop} {s : Shared} {h₀ : Heap} {L D : Addr} {news : List (Addr × Obj)} {ys : List Value} {n : Nat} {cs : List Nat} {t : Tok} {Q : Value → Shared → Prop} (N : News h₀ L s.heap news) (hm : (D, W.listOf ys.toArray n) ∈ news) (hy : PyProof.Rows.StrsAre ys (cs.map fun c => textOf [c])) (hc : cs.length ≤ 100)
    (h : ∀ t' k, Q (.str (textOf cs) t') { s with toks := k }) : wpAny (model prog w) A (call (.builtin "str.join") [.str (Str.ofString "") t, .ref D]) Q E s := by
  have hs : ((cs.map fun c => textOf [c]).map (·.length)).sum = cs.length := by
    clear hy hc h
    induction cs with
    | nil => rfl
    | cons c r ih =>
      simp only [List.map_cons, List.sum_cons, ih, List.length_cons]
      show 1 + _ = _
      lia
  refine join_listW (PySem.IsL.isList (n := n) (N _ hm).1) hy (by decide) (by rw [hs, List.length_map]; lia) fun t' k => ?_
  have e : PySem.Txt.join (Str.ofString "") (cs.map fun c => textOf [c]) = textOf cs := by
    unfold PySem.Txt.join
    rw [PySem.StrLaws.glued_eq_join]
    exact join_text cs
  rw [e]
  exact h t' k
section
variable {prog : Program} {w : World} {A : Around} {E : Value → Shared → Prop} {s : Shared} {h₀ : Heap} {L l : Addr} {m : Str → Option Value} {news : List (Addr × Obj)} {value slice : PySem.Expr} {vs : List Value} {v : Value} {n : Nat} {vl vu : Value} {Q : Value → Shared → Prop}
theorem pick_init (vs : List Value) (v : Value) : (slicePick (vs ++ [v]).toArray none (some (-1)) none).toList = vs := by
  have e : sliceBounds none (some (-1)) none (vs ++ [v]).toArray.size = (((0 : Nat) : Int), ((vs.length : Nat) : Int), 1) := by
    simp only [sliceBounds, Option.getD_none]
    rw [List.size_toArray, List.length_append, List.length_singleton]
    simp
    lia
  rw [kmk_pick_nat _ e]
  simp
theorem slice_init (F : Fr h₀ L s.heap m) (N : News h₀ L s.heap news) (hm : (l, W.listOf (vs ++ [v]).toArray n) ∈ news) (pl : IsPart vl none) (pu : IsPart vu (some (-1))) (hz : vs.length ≤ 1000)
    (h : ∀ D h', Fr h₀ L h' m → News h₀ L h' ((D, W.listOf vs.toArray 0) :: news) → (∀ p ∈ news, p.1 < D) → Q (.ref D) { s with heap := h' })
    (hs : subscripted slice false (.ref l) (.ref s.heap.objs.size) = operate [.ref s.heap.objs.size, .ref l] (getItem (.ref l) (.ref s.heap.objs.size))) (ht : ∀ r, letTemporaryGo value (.ref l) r = pure ()) :
    wpAny (model prog w) A (subscriptTail value slice (.ref l) (.ref s.heap.objs.size)) Q E { s with heap := s.heap.push { cls := .type "slice", data := .fields #[vl, vu, .none] } } :=
  kmk_slice_lit F N (PySem.IsL.isList (n := n) (N _ hm).1) pl pu (pick_init vs v) h hs ht (by rw [List.size_toArray, List.length_append, List.length_singleton, PySem.sizeLine_eq]; lia)
end
/-- the found pairs -/
inductive FoundAt (ro : List (Addr × Obj)) (a : Addr) (p : Str × Str) : Prop
  | mk : ∀ t1 t2, (TupAt ro a [.str p.1 t1, .str p.2 t2]) → FoundAt ro a p
def pairsT (xs : List Str) : List (Str × Str) := xs.map (fun x => (Str.ofString "A", x)) ++ [(Str.ofString "$end", Str.ofString "")]
theorem ToksAt.pairs {w : World} {ro : List (Addr × Obj)} {as : List Addr} {xs : List Str} (h : ToksAt w ro as xs) : Each (fun a (p : Str × Str) => TokObj w ro a p.1 p.2) as (pairsT xs) := by
  obtain ⟨bs, z, rfl, hb, hz⟩ := h
  refine Each.snoc (x := (Str.ofString "$end", Str.ofString "")) hz ?_
  induction hb with
  | nil => exact .nil
  | cons h _ ih => exact .cons h ih
inductive foundJ (R : List (Addr × Obj)) (kt : List (Str × Str)) (i : Nat) (ys : List Value) (nw : List (Addr × Obj)) : Prop
  | mk : ∀ ps : List Addr, (ys = ps.map Value.ref) → (Sub R nw) → (Each (FoundAt nw) ps (kt.take i)) → foundJ R kt i ys nw
theorem foundJ.snoc {R nw nw' : List (Addr × Obj)} {kt : List (Str × Str)} {i : Nat} {ys : List Value} {a : Addr} {p : Str × Str} (x : foundJ R kt i ys nw) (s : Sub nw nw') (hp : kt[i]? = some p) (h : FoundAt nw' a p) : foundJ R kt (i + 1) (ys ++ [.ref a]) nw' := by
  obtain ⟨ps, rfl, sb, e⟩ := x
  refine ⟨ps ++ [a], by simp, sb.trans s, ?_⟩
  rw [List.take_add_one, hp]
  exact Each.snoc h (e.imp fun _ _ ⟨t1, t2, y⟩ => ⟨t1, t2, y.sub s⟩)
theorem Each.unsnoc {α : Type} {R : Addr → α → Prop} {z : α} : ∀ {xs : List α} {as : List Addr}, Each R as (xs ++ [z]) → ∃ bs a, as = bs ++ [a] ∧ Each R bs xs ∧ R a z
  | [], _, .cons h .nil => ⟨[], _, rfl, .nil, h⟩
  | _ :: _, _, .cons h t => let ⟨bs, a, e, x, y⟩ := Each.unsnoc t; ⟨_ :: bs, a, by rw [e]; rfl, .cons h x, y⟩
theorem found_split {ro : List (Addr × Obj)} {ps : List Addr} {xs : List Str} (h : Each (FoundAt ro) ps (pairsT xs)) : ∃ bs a, ps = bs ++ [a] ∧ Each (TokAt ro) bs xs ∧ FoundAt ro a (Str.ofString "$end", Str.ofString "") := by
  obtain ⟨bs, a, e, x, y⟩ := Each.unsnoc h
  refine ⟨bs, a, e, ?_, y⟩
  clear e h y
  induction xs generalizing bs with
  | nil => cases x; exact .nil
  | cons z r ih =>
    cases x with
    | cons h t =>
      obtain ⟨t1, t2, h⟩ := h
      exact .cons ⟨t1, t2, h⟩ (ih _ t)
/-- a column of the turns -/
def colJ (R : List (Addr × Obj)) (f : Turn → Int) (tl : List Turn) (i : Nat) (ys : List Value) (nw : List (Addr × Obj)) : Prop := nw = R ∧ IntsAre ys ((tl.take i).map f)
theorem colJ.snoc {R : List (Addr × Obj)} {f : Turn → Int} {tl : List Turn} {i : Nat} {ys : List Value} {nw : List (Addr × Obj)} {t : Turn} {tk : Tok} (x : colJ R f tl i ys nw) (h : tl[i]? = some t) : colJ R f tl (i + 1) (ys ++ [.int (f t) tk]) nw := by
  obtain ⟨e, y⟩ := x
  refine ⟨e, ?_⟩
  rw [List.take_add_one, h, List.map_append]
  exact IntsAre.append y (.cons _ _ .nil)
theorem colJ.len {R : List (Addr × Obj)} {f : Turn → Int} {tl : List Turn} {ys : List Value} {nw : List (Addr × Obj)} (x : colJ R f tl tl.length ys nw) : nw = R ∧ IntsAre ys (tl.map f) := by
  obtain ⟨e, y⟩ := x
  rw [List.take_length] at y
  exact ⟨e, y⟩
theorem off5 {a b c d e x : Addr} {oa ob oc od oe : Obj} (h : @LT.lt Nat _ a x ∧ @LT.lt Nat _ b x ∧ @LT.lt Nat _ c x ∧ @LT.lt Nat _ d x ∧ @LT.lt Nat _ e x) : ∀ p ∈ (a, oa) :: (b, ob) :: (c, oc) :: (d, od) :: (e, oe) :: ([] : List (Addr × Obj)), p.1 ≠ x :=
  List.forall_mem_cons.mpr ⟨Nat.ne_of_lt h.1, List.forall_mem_cons.mpr ⟨Nat.ne_of_lt h.2.1, List.forall_mem_cons.mpr ⟨Nat.ne_of_lt h.2.2.1, List.forall_mem_cons.mpr ⟨Nat.ne_of_lt h.2.2.2.1, List.forall_mem_cons.mpr ⟨Nat.ne_of_lt h.2.2.2.2, fun _ h => nomatch h⟩⟩⟩⟩⟩
theorem notCell_of {o : Obj} {v : Option Value} (h : o.data = .cell v) : notCell o = false := by unfold notCell; rw [h]
/-- the ledger without the cell at an address -/
def nk (c : Addr) (r : List (Addr × Obj)) : List (Addr × Obj) := r.filter fun p => notCell p.2 || decide (@Ne Nat p.1 c)
theorem nk_mem {c : Addr} {r : List (Addr × Obj)} {p : Addr × Obj} (h : p ∈ r) (e : notCell p.2 = true) : p ∈ nk c r := List.mem_filter.mpr ⟨h, by rw [e]; rfl⟩
theorem nk_ne {c : Addr} {r : List (Addr × Obj)} {p : Addr × Obj} (h : p ∈ r) (e : p.1 ≠ c) : p ∈ nk c r := List.mem_filter.mpr ⟨h, by rw [Bool.or_eq_true]; exact .inr (decide_eq_true e)⟩
theorem nk_sub {c : Addr} {r : List (Addr × Obj)} {p : Addr × Obj} (h : p ∈ nk c r) : p ∈ r := (List.mem_filter.mp h).1
theorem nk_off {h₀ h : Heap} {L c : Addr} {oc : Obj} {r : List (Addr × Obj)} (N : News h₀ L h r) (hc : (c, oc) ∈ r) (e : notCell oc = false) : ∀ p ∈ nk c r, p.1 ≠ c := fun p hp q => by
  have h1 := List.mem_filter.mp hp
  have h2 : p.2 = oc := same_obj N (a := c) (by rw [← q]; exact h1.1) hc
  have h3 := h1.2
  rw [h2, e, Bool.false_or] at h3
  exact of_decide_eq_true h3 q
theorem nk_front {h₀ h : Heap} {L c : Addr} {oc : Obj} {r : List (Addr × Obj)} (N : News h₀ L h r) (hc : (c, oc) ∈ r) : News h₀ L h ((c, oc) :: nk c r) := PyProof.Rows.News.perm N fun p hp => by
  rcases List.mem_cons.mp hp with rfl | hp
  · exact hc
  · exact nk_sub hp
theorem StepObj.nk {w : World} {r : List (Addr × Obj)} {x c : Addr} {a : Str} {v : Value} (h : StepObj w r x a v) : StepObj w (nk c r) x a v := by
  obtain ⟨dx, k1, k2, t, n, p, q⟩ := h
  exact ⟨dx, k1, k2, t, n, nk_mem p rfl, nk_mem q rfl⟩
def WordP (more : Bool) (h : Heap) (s : Shared) (v : Value) (s' : Shared) : Prop := ∃ t tk', v = .str (wordOf more) t ∧ s' = { s with heap := h, toks := tk' }
theorem law_carve {h₀ h : Heap} {L : Addr} {a b q1 q2 q3 q4 q5 : Addr × Obj} {ro : List (Addr × Obj)} (N : News h₀ L h (a :: b :: ro)) (m1 : q1 ∈ ro) (m2 : q2 ∈ ro) (m3 : q3 ∈ ro) (m4 : q4 ∈ ro) (m5 : q5 ∈ ro) : News h₀ L h (q1 :: q2 :: q3 :: q4 :: q5 :: a :: b :: nc ro) := PyProof.Rows.News.perm N fun p hp => by
  rcases List.mem_cons.mp hp with rfl | hp
  · exact .tail _ (.tail _ m1)
  rcases List.mem_cons.mp hp with rfl | hp
  · exact .tail _ (.tail _ m2)
  rcases List.mem_cons.mp hp with rfl | hp
  · exact .tail _ (.tail _ m3)
  rcases List.mem_cons.mp hp with rfl | hp
  · exact .tail _ (.tail _ m4)
  rcases List.mem_cons.mp hp with rfl | hp
  · exact .tail _ (.tail _ m5)
  rcases List.mem_cons.mp hp with rfl | hp
  · exact .head _
  rcases List.mem_cons.mp hp with rfl | hp
  · exact .tail _ (.head _)
  · exact .tail _ (.tail _ (nc_sub hp))
inductive textJ (g : Obj → List (Addr × Obj)) (lim : Int) (i : Nat) (ys : List Value) (nw : List (Addr × Obj)) : Prop
  | mk : ∀ (px : Obj) (cs : List Nat), (nw = g px) → (PenAt px (lim + i)) → (cs.length = i) → ((∀ c ∈ cs, c < 3)) → (PyProof.Rows.StrsAre ys (cs.map fun c => textOf [c])) → textJ g lim i ys nw
theorem textJ_snoc {g : Obj → List (Addr × Obj)} {lim : Int} {i : Nat} {ys : List Value} {cs : List Nat} {px : Obj} {x : Str} {t : Tok} {c : Nat} (P : PenAt px (lim + i + 1)) (hl : cs.length = i) (hc : ∀ c ∈ cs, c < 3) (hy : PyProof.Rows.StrsAre ys (cs.map fun c => textOf [c])) (hx : x = textOf [c]) (h3 : c < 3) :
    textJ g lim (i + 1) (ys ++ [.str x t]) (g px) := by
  refine ⟨px, cs ++ [c], rfl, P.to (by lia), by simp [hl], fun y hy => ?_, ?_⟩
  · rcases List.mem_append.mp hy with h | h
    · exact hc y h
    · rw [List.mem_singleton.mp h]; exact h3
  · rw [List.map_append, hx]
    exact kct_snoc hy
theorem fillK0 {P : Prop} (h : KM = KM → PySem.Challenge.rw_qd0070_01.row.prog = PySem.Challenge.rw_qd0070_01.row.prog → P) : P := h rfl rfl
theorem sit_law {w : World} {env : Env} {base h₀ : Heap} {L : Addr} {loose : List Str} {mean : ExcName → Option Value} {mg mb : Str → Option Value}
    (B : Below callerA base [] h₀) (X : (KM w.params).In h₀) (T : Top qV loose mean mg mb h₀) (hf : env.frame = some L) (hk : env.scope.kind = .function) : Sit w 30 h₀ L (callerA.deeper env) :=
  ⟨_, _, _, env, [], callerA, base, loose, mean, mg, mb, rfl, B, X, T, hf, hk, by decide, by decide⟩
theorem Sit.lessM {w : World} {n a : Nat} {h₀ : Heap} {L : Addr} {A : Around} (S : Sit w n h₀ L A) (h : Nat.ble a n = true) : Sit w (0 + a) h₀ L A :=
  S.less (by rw [Nat.zero_add]; exact Nat.le_of_ble_eq_true h)
theorem with_sit {w : World} {env : Env} {base h₀ : Heap} {L : Addr} {loose : List Str} {mean : ExcName → Option Value} {mg mb : Str → Option Value} {α : Type} {p : Sem α} {Q : α → Shared → Prop} {E : Value → Shared → Prop} {s : Shared}
    (B : Below callerA base [] h₀) (X : (KM w.params).In h₀) (T : Top qV loose mean mg mb h₀) (hf : env.frame = some L) (hk : env.scope.kind = .function) (h : Sit w 30 h₀ L (callerA.deeper env) → wpAny (MD w) (callerA.deeper env) p Q E s) :
    wpAny (MD w) (callerA.deeper env) p Q E s := h (sit_law B X T hf hk)


theorem CutsAt.sub {r r' : List (Addr × Obj)} {a : Addr} {cuts : Int → Bool × Int} (x : CutsAt r a cuts) (s : Sub r r') : CutsAt r' a cuts := let ⟨c0, c1, p, q, t⟩ := x; ⟨c0, c1, p.sub s, q.sub s, t.sub s⟩


theorem news_pack4 {h₀ h : Heap} {L : Addr} {a b c d : Addr × Obj} {r : List (Addr × Obj)} (N : News h₀ L h (a :: b :: c :: d :: r)) : ∃ R, News h₀ L h R ∧ a ∈ R ∧ b ∈ R ∧ c ∈ R ∧ d ∈ R ∧ Sub r R :=
  ⟨_, N, .head _, .tail _ (.head _), .tail _ (.tail _ (.head _)), .tail _ (.tail _ (.tail _ (.head _))), (Sub.refl _).cons.cons.cons.cons⟩
theorem news_pack1 {h₀ h : Heap} {L : Addr} {a : Addr × Obj} {r : List (Addr × Obj)} (N : News h₀ L h (a :: r)) : ∃ R, News h₀ L h R ∧ a ∈ R ∧ Sub r R := ⟨_, N, .head _, (Sub.refl _).cons⟩
theorem ne_ints_same {prog : Program} {w : World} {A : Around} {E : Value → Shared → Prop} {s : Shared} {a b : Addr} {xs ys : List Value} {ns ms : List Int} {Q : Value → Shared → Prop} (ha : s.heap.IsList a xs.toArray) (hb : s.heap.IsList b ys.toArray) (hi : IntsAre xs ns) (hj : IntsAre ys ms) (e : ns = ms) (hu : A.units + 64 < cLine) (h : Q (.bool false) s) :
    wpAny (model prog w) A (compareOp .NotEq (.ref a) (.ref b)) Q E s := ke_ne_ints ha hb hi hj hu (by subst e; simpa using h)
def linJ2 (R : List (Addr × Obj)) (cs : List Nat) (tl : List Turn) (i : Nat) (ys : List Value) (nw : List (Addr × Obj)) : Prop := nw = R ∧ PyProof.Rows.StrsAre ys ((tl.take i).map (lineT cs))
theorem linJ2.snoc {R : List (Addr × Obj)} {cs : List Nat} {tl : List Turn} {i : Nat} {ys : List Value} {nw : List (Addr × Obj)} {t : Turn} {tk : Tok} (x : linJ2 R cs tl i ys nw) (h : tl[i]? = some t) : linJ2 R cs tl (i + 1) (ys ++ [.str (lineT cs t) tk]) nw := by
  obtain ⟨e, y⟩ := x
  refine ⟨e, ?_⟩
  rw [List.take_add_one, h, List.map_append]
  exact kct_snoc y
theorem linJ2.len {R : List (Addr × Obj)} {cs : List Nat} {tl : List Turn} {ys : List Value} {nw : List (Addr × Obj)} (x : linJ2 R cs tl tl.length ys nw) : nw = R ∧ PyProof.Rows.StrsAre ys (tl.map (lineT cs)) := by
  obtain ⟨e, y⟩ := x
  rw [List.take_length] at y
  exact ⟨e, y⟩
theorem ok_lines (cs : List Nat) (ts : List Turn) : ∀ x ∈ ts.map (lineT cs) ++ [Str.ofString "--EOF"], PyData.strOk x = true := fun x hx => by
  rcases List.mem_append.mp hx with h | h
  · obtain ⟨t, _, rfl⟩ := List.mem_map.mp h
    exact ok_line cs _ _ _
  · rw [List.mem_singleton.mp h]; decide +kernel
local macro_rules | `(tactic| walk_at "compareOp NotEq ref ref") => pure (κhol)
local macro_rules | `(tactic| walk_at "compareOp NotEq ref ref") => pure (κtA `ne_cut [κqa, κqm, κqm, (κbyT (κta `PySem.W.tacticKe_room "ke_room" [])), κq0])
local macro_rules | `(tactic| walk_at "compareOp Eq ref ref") => pure (κhol)
local macro_rules | `(tactic| walk_at "call type:dict") => pure (κhol)
local macro_rules | `(tactic| walk_at "call ref") => pure (κhol)
local macro_rules | `(tactic| walk_at "subscriptTail") => pure (κtC (κap `subscriptTail [κh_, (κap `PySem.Expr.Slice [(κi `none), (κap `some [κh_]), (κi `none), κh_]), κgr, κgr]) (κtL (κtD `slice_init [κqa, κqa, κqm, κqp, κqp, κql, κq0, κqu, κqe])))
theorem q_names : namesOk qV (looseW qV looseL) (namesW qV looseL) = true := by
  rw [PySem.W.Fast.te17448422675489707002, PySem.W.Fast.te821141287760084731]
  kernel_rfl
theorem q_imports : importsNone qV = true := by
  rw [PySem.W.Fast.te2458874890965802552]
  kernel_rfl
local macro_rules | `(tactic| k_qdec) => pure (κtO [(κex (κi `q_names)), (κex (κi `q_imports))])
noncomputable section
namespace main
def St : Prop :=
    PySem.Challenge.rw_qd0070_01.Holds
def G1 : {P : Shared → Shared → Addr → Obj → Value → Value → Addr → Obj → Addr → Addr → (List Int) → (List Addr) → (List Addr) → Addr → (List Value) → (List Addr) → Nat → Obj → Obj → Obj → Obj → Obj → World → SOV → SOV → Heap → Prop // (∀ s₀ s₁ fa o pm doc w1 w2 w3 w4 ns w5 w6 w7 vs w8 tk₁ o4 o3 o2 o1 o0 w mg mb h₁, P s₀ s₁ fa o pm doc w1 w2 w3 w4 ns w5 w6 w7 vs w8 tk₁ o4 o3 o2 o1 o0 w mg mb h₁) → St} := ⟨_, by
  intro hh; unfold St
  refine holds_law said fun said' => ?_
  refine holds_open (q := qV) (loose := looseL) (Xt := XtL) (XP := XL qV []) (Yf := HK.obs) (Ya := HK.val) (YP := HK.says) (N := 20000) left HK.of HK.keeps (fun s e => xl_of s (Bool.and_eq_true_iff.mp e).1) XL.keeps (by rfl) (by rfl) (by rfl) (fun s e => recFacts_of (Bool.and_eq_true_iff.mp e).2) (by rfl) said' (by decide +kernel) ⟨rfl, rfl, rfl, rfl, rfl, by decide +kernel⟩ ?hw ?hc
  case hw => w_witness2
  case hc =>
    refine fillK0 ?_
    k_fill
    intro _ _
    w_strict (
      k_go0
      rename_i w s₀ s₁ mg mb G Y fa o pm doc ho hg KX X1 V GL T TB TE TW w1 w2 M w3 w4 hcd ns hs hlay hL hr hl2 w5 w6 w7 vs w8 hLL ra ww1 r0 hI hr9 hcd1 hcd2 K0 hD h₁ tk₁ F o4 o3 o2 o1 o0 e4 e3 e2 e1 e0 N0 X0
      refine with_sit K0 KX T rfl rfl ?_
      intro S
      k_fold
      k_steps
      skip)
    have hlen : vs.length ≤ 63 := by
      have e := IntsAre.length hI
      lia
    clear said' G Y ho X1 V GL TB TE TW M hcd hr hr9 ww1 r0 ra hcd1 hcd2 hD
    unfold Hold
    rename_i ξ1 ξ2
    revert ξ1 ξ2 hg KX T hs hlay hL hl2 hLL hI K0 F e4 e3 e2 e1 e0 N0 X0 S qk ek hlen
    exact hh s₀ s₁ fa o pm doc w1 w2 w3 w4 ns w5 w6 w7 vs w8 tk₁ o4 o3 o2 o1 o0 w mg mb h₁⟩
def R1 (c : Cx × (((((Shared × Shared) × Addr) × ((Obj × Value) × Value)) × (((Addr × Obj) × Addr) × (Addr × (List Int)))) × (((((List Addr) × (List Addr)) × Addr) × (((List Value) × (List Addr)) × Nat)) × (((Obj × Obj) × Obj) × (Obj × Obj))))) := fun s₁ o vs o4 o3 w => G1.1 c.2.1.1.1.1.1 s₁ c.2.1.1.1.2 o c.2.1.1.2.1.2 c.2.1.1.2.2 c.2.1.2.1.1.1 c.2.1.2.1.1.2 c.2.1.2.1.2 c.2.1.2.2.1 c.2.1.2.2.2 c.2.2.1.1.1.1 c.2.2.1.1.1.2 c.2.2.1.1.2 vs c.2.2.1.2.1.2 c.2.2.1.2.2 o4 o3 c.2.2.2.1.2 c.2.2.2.2.1 c.2.2.2.2.2 w c.1.mg c.1.mb c.1.h₁
def P1 (c : Cx × (((((Shared × Shared) × Addr) × ((Obj × Value) × Value)) × (((Addr × Obj) × Addr) × (Addr × (List Int)))) × (((((List Addr) × (List Addr)) × Addr) × (((List Value) × (List Addr)) × Nat)) × (((Obj × Obj) × Obj) × (Obj × Obj))))) : Prop := R1 c c.2.1.1.1.1.2 c.2.1.1.2.1.1 c.2.2.1.2.1.1 c.2.2.2.1.1.1 c.2.2.2.1.1.2 c.1.w
@[irreducible] def z1 : Cx × (((((Shared × Shared) × Addr) × ((Obj × Value) × Value)) × (((Addr × Obj) × Addr) × (Addr × (List Int)))) × (((((List Addr) × (List Addr)) × Addr) × (((List Value) × (List Addr)) × Nat)) × (((Obj × Obj) × Obj) × (Obj × Obj)))) := ep P1 (by walk_at "ne")
@[irreducible] def s₁ := z1.2.1.1.1.1.2
@[irreducible] def o := z1.2.1.1.2.1.1
@[irreducible] def vs := z1.2.2.1.2.1.1
@[irreducible] def o4 := z1.2.2.2.1.1.1
@[irreducible] def o3 := z1.2.2.2.1.1.2
@[irreducible] def w := z1.1.w
def G2 : {P : Addr → Obj → Heap → Nat → Heap → Obj → Nat → Addr → Heap → Nat → Obj → LAO → (List (List Int)) → (List (List Int)) → Addr → Heap → Nat → Obj → LAO → (List (List Int)) → (List (List Int)) → Addr → Heap → Addr → Heap → Nat → Obj → LAO → Bool → Int → Addr → Heap → Nat → Obj → LAO → Bool → Int → Addr → Heap → Obj → Int → Tok → Heap → Nat → Addr → Heap → Heap → Heap → Obj → Heap → Obj → Heap → Nat → Obj → Tok → Heap → Nat → Nat → Heap → Nat → Tok → Tok → Tok → Prop // (∀ pen op h2 tk2 ξ5 oP ξ6 a0 h3 tk3 p3 ro3 rows0 tags0 a1 h4 tk4 p4 ro4 rows1 tags1 la h4' c0 h5 tk5 p5 ro5 bh0 n0 c1 h6 tk6 p6 ro6 bh1 n1 lc h6' p7 dm td h7 tk7 DT ξ7 ξ8 ξ9 oA ξ10 oC ξ11 tk p9 tdn h9 tk9 nn h10 tk10 t10 u10 v10, P pen op h2 tk2 ξ5 oP ξ6 a0 h3 tk3 p3 ro3 rows0 tags0 a1 h4 tk4 p4 ro4 rows1 tags1 la h4' c0 h5 tk5 p5 ro5 bh0 n0 c1 h6 tk6 p6 ro6 bh1 n1 lc h6' p7 dm td h7 tk7 DT ξ7 ξ8 ξ9 oA ξ10 oC ξ11 tk p9 tdn h9 tk9 nn h10 tk10 t10 u10 v10) → R1 z1 s₁ o vs o4 o3 w} := ⟨_, by
  intro hh ξ1 ξ2 hg KX T hs hlay hL hl2 hLL hI K0 F e4 e3 e2 e1 e0 N0 X0 S qk ek hlen
  refine fillK (w := aWorld 0) ?_; k_fill; intro _ _
  k_dflt (refine pen_ok (k := 0) (Sit.lessM S (by decide)) (by k_asm) (by k_asm) hLL hI hlen ?_)
  intro pen op h2 tk2 P2 F2 N2 lt2
  k_lt lt2
  k_sweep
  w_strict k_steps
  unfold Hold
  k_dflt (refine automaton_ok (k := 0) (lim := 0) (Sit.lessM S (by decide)) (by k_asm) (by k_asm) (off5 lt2) P2 (by decide) ?_)
  intro a0 h3 tk3 p3 ro3 rows0 tags0 AO0 P3 F3 N3 off3 sb3 AA0
  k_sweep
  have mp3 := sb3 _ (.tail _ (.tail _ (.tail _ (.tail _ (.head _)))))
  w_strict k_steps
  unfold Hold
  k_dflt (refine automaton_ok (k := 0) (Sit.lessM S (by decide)) (by k_asm) (by k_asm) off3 P3 (by decide) ?_)
  intro a1 h4 tk4 p4 ro4 rows1 tags1 AO1 P4 F4 N4 off4 sb4 AA1
  k_sweep
  have mp4 := sb4 _ mp3
  clear mp3
  w_strict k_steps
  rename_i la h4' F4' N4' l4
  unfold Hold
  k_dflt (refine cut_ok (k := 0) (Sit.lessM S (by decide)) F4' (newsSwap N4') (List.forall_mem_cons.mpr ⟨Nat.ne_of_gt l4.1, off4⟩) P4 (by decide) ?_)
  intro c0 h5 tk5 p5 ro5 bh0 n0 CO0 P5 F5 N5 off5' sb5 CA0
  k_sweep
  have mp5 := sb5 _ (.tail _ mp4)
  clear mp4
  w_strict k_steps
  unfold Hold
  k_dflt (refine cut_ok (k := 0) (Sit.lessM S (by decide)) (by k_asm) (by k_asm) off5' P5 (by decide) ?_)
  intro c1 h6 tk6 p6 ro6 bh1 n1 CO1 P6 F6 N6 off6 sb6 CA1
  k_sweep
  have mp6 := sb6 _ mp5
  clear mp5
  w_strict k_steps
  rename_i lc h6' F6' N6' l6
  unfold Hold
  k_dflt (refine' draw_ok (k := 0) ?k1 ?k2 ?k3 ?k4 ?k5 ?k6 ?k7 ?k8 ?_; (case k1 => exact Sit.lessM S (by decide)); (case k2 => exact F6'); (case k3 => exact N6'); (case k4 => k_updF); (case k5 => exact P6); (case k6 => decide); (case k7 => decide); (case k8 => decide); k_whole)
  intro p7 dm td h7 tk7 P7 dm0 dm1 F7 N7
  (try dsimp only at N7)
  have sbA : ∀ p ∈ ro3, p ∈ ro6 := fun p hp => sb6 _ (sb5 _ (.tail _ (sb4 _ hp)))
  have m4 := sbA _ (sb3 _ (.head _))
  have m3 := sbA _ (sb3 _ (.tail _ (.head _)))
  have m2 := sbA _ (sb3 _ (.tail _ (.tail _ (.head _))))
  have m1 := sbA _ (sb3 _ (.tail _ (.tail _ (.tail _ (.head _)))))
  rename_i oP dP
  have N8 := law_carve N7 m4 m3 m2 m1 mp6
  have NR := PyProof.Rows.News.tail' (PyProof.Rows.News.tail' N7)
  have f4 := nc_off NR m4 (notCell_of e4)
  have f3 := nc_off NR m3 (notCell_of e3)
  have f2 := nc_off NR m2 (notCell_of e2)
  have f1 := nc_off NR m1 (notCell_of e1)
  have f0 := nc_off NR mp6 (notCell_of dP)
  have g4 := tb_ltOf l6.2 _ m4
  have g3 := tb_ltOf l6.2 _ m3
  have g2 := tb_ltOf l6.2 _ m2
  have g1 := tb_ltOf l6.2 _ m1
  have g0 := tb_ltOf l6.2 _ mp6
  (try dsimp only at g4 g3 g2 g1 g0)
  have AA0' := (AA0.sub sbA).nc
  have AA1' := (AA1.sub (fun p hp => sb6 _ (sb5 _ (.tail _ hp)))).nc
  have CA0' := (CA0.sub sb6).nc
  have CA1' := CA1.nc
  have LA' : ListAt (nc ro6) la [.ref a0, .ref a1] := ListAt.nc ⟨_, sb6 _ (sb5 _ (.head _))⟩
  have ofP : ∀ p ∈ nc ro6, p.1 ≠ pen := fun p hp => off6 p (nc_sub hp)
  clear N7 NR sb3 sb4 sb5 sb6 sbA AA0 AA1 CA0 CA1 m4 m3 m2 m1 mp6 off3 off4 off5' off6 P3 P4 P5 P6
  w_strict k_steps
  rename_i oA dA _ oC dC _ F8 N8
  unfold Hold
  k_dflt (refine' draw_ok (k := 0) ?k1 ?k2 ?k3 ?k4 ?k5 ?k6 ?k7 ?k8 ?_; (case k1 => exact Sit.lessM S (by decide)); (case k2 => exact F8); (case k3 => exact N8); (case k4 => k_updF); (case k5 => exact P7); (case k6 => decide); (case k7 => decide); (case k8 => decide); k_whole)
  intro p9 dn tdn h9 tk9 P9 dn0 dn1 F9 N9
  (try dsimp only at N9)
  obtain ⟨nn, rfl⟩ := Int.eq_ofNat_of_zero_le dn0
  clear F8 N8 P7
  w_strict k_steps
  rename_i DT _ lT _ _ _ _ h10 tk10 t10 u10 v10 R10 F10 N10 ext10
  unfold Hold
  rename_i ξ3 ξ4 ξ5 ξ6 ξ7 ξ8 ξ9 ξ10 ξ11
  clear ξ3 ξ4
  revert ξ1 ξ2 hg KX T hs hlay hL hl2 hLL hI K0 F e4 e3 e2 e1 e0 N0 X0 S qk ek hlen P2 lt2 dP AO0 AO1 l4 CO0 CO1 l6 dm0 dm1 f4 f3 f2 f1 f0 g4 g3 g2 g1 g0 AA0' AA1' CA0' CA1' LA' ofP lT dA dC P9 dn0 dn1 R10 F10 N10 ext10
  exact hh pen op h2 tk2 ξ5 oP ξ6 a0 h3 tk3 p3 ro3 rows0 tags0 a1 h4 tk4 p4 ro4 rows1 tags1 la h4' c0 h5 tk5 p5 ro5 bh0 n0 c1 h6 tk6 p6 ro6 bh1 n1 lc h6' p7 dm td h7 tk7 DT ξ7 ξ8 ξ9 oA ξ10 oC ξ11 tk p9 tdn h9 tk9 nn h10 tk10 t10 u10 v10⟩
def R2 (c : ((((((Addr × Obj) × (Heap × Nat)) × ((Heap × Obj) × (Nat × Addr))) × (((Heap × Nat) × (Obj × LAO)) × (((List (List Int)) × (List (List Int))) × (Addr × Heap)))) × ((((Nat × Obj) × (LAO × (List (List Int)))) × (((List (List Int)) × Addr) × (Heap × Addr))) × (((Heap × Nat) × (Obj × LAO)) × ((Bool × Int) × (Addr × Heap))))) × (((((Nat × Obj) × (LAO × Bool)) × ((Int × Addr) × (Heap × Obj))) × (((Int × Tok) × (Heap × Nat)) × ((Addr × Heap) × (Heap × Heap)))) × ((((Obj × Heap) × (Obj × Heap)) × ((Nat × Obj) × (Tok × Heap))) × (((Nat × Nat) × (Heap × Nat)) × ((Tok × Tok) × Tok)))))) := fun pen tk2 oP a0 rows0 tags0 a1 rows1 tags1 la c0 h5 tk5 bh0 n0 c1 ro6 bh1 n1 lc dm DT oA oC tk p9 h9 => G2.1 pen c.1.1.1.1.1.2 c.1.1.1.1.2.1 tk2 c.1.1.1.2.1.1 oP c.1.1.1.2.2.1 a0 c.1.1.2.1.1.1 c.1.1.2.1.1.2 c.1.1.2.1.2.1 c.1.1.2.1.2.2 rows0 tags0 a1 c.1.1.2.2.2.2 c.1.2.1.1.1.1 c.1.2.1.1.1.2 c.1.2.1.1.2.1 rows1 tags1 la c.1.2.1.2.2.1 c0 h5 tk5 c.1.2.2.1.2.1 c.1.2.2.1.2.2 bh0 n0 c1 c.1.2.2.2.2.2 c.2.1.1.1.1.1 c.2.1.1.1.1.2 ro6 bh1 n1 lc c.2.1.1.2.2.1 c.2.1.1.2.2.2 dm c.2.1.2.1.1.2 c.2.1.2.1.2.1 c.2.1.2.1.2.2 DT c.2.1.2.2.1.2 c.2.1.2.2.2.1 c.2.1.2.2.2.2 oA c.2.2.1.1.1.2 oC c.2.2.1.1.2.2 tk p9 c.2.2.1.2.2.1 h9 c.2.2.2.1.1.1 c.2.2.2.1.1.2 c.2.2.2.1.2.1 c.2.2.2.1.2.2 c.2.2.2.2.1.1 c.2.2.2.2.1.2 c.2.2.2.2.2
def P2 (c : ((((((Addr × Obj) × (Heap × Nat)) × ((Heap × Obj) × (Nat × Addr))) × (((Heap × Nat) × (Obj × LAO)) × (((List (List Int)) × (List (List Int))) × (Addr × Heap)))) × ((((Nat × Obj) × (LAO × (List (List Int)))) × (((List (List Int)) × Addr) × (Heap × Addr))) × (((Heap × Nat) × (Obj × LAO)) × ((Bool × Int) × (Addr × Heap))))) × (((((Nat × Obj) × (LAO × Bool)) × ((Int × Addr) × (Heap × Obj))) × (((Int × Tok) × (Heap × Nat)) × ((Addr × Heap) × (Heap × Heap)))) × ((((Obj × Heap) × (Obj × Heap)) × ((Nat × Obj) × (Tok × Heap))) × (((Nat × Nat) × (Heap × Nat)) × ((Tok × Tok) × Tok)))))) : Prop := R2 c c.1.1.1.1.1.1 c.1.1.1.1.2.2 c.1.1.1.2.1.2 c.1.1.1.2.2.2 c.1.1.2.2.1.1 c.1.1.2.2.1.2 c.1.1.2.2.2.1 c.1.2.1.1.2.2 c.1.2.1.2.1.1 c.1.2.1.2.1.2 c.1.2.1.2.2.2 c.1.2.2.1.1.1 c.1.2.2.1.1.2 c.1.2.2.2.1.1 c.1.2.2.2.1.2 c.1.2.2.2.2.1 c.2.1.1.1.2.1 c.2.1.1.1.2.2 c.2.1.1.2.1.1 c.2.1.1.2.1.2 c.2.1.2.1.1.1 c.2.1.2.2.1.1 c.2.2.1.1.1.1 c.2.2.1.1.2.1 c.2.2.1.2.1.1 c.2.2.1.2.1.2 c.2.2.1.2.2.2
@[irreducible] def z2 : ((((((Addr × Obj) × (Heap × Nat)) × ((Heap × Obj) × (Nat × Addr))) × (((Heap × Nat) × (Obj × LAO)) × (((List (List Int)) × (List (List Int))) × (Addr × Heap)))) × ((((Nat × Obj) × (LAO × (List (List Int)))) × (((List (List Int)) × Addr) × (Heap × Addr))) × (((Heap × Nat) × (Obj × LAO)) × ((Bool × Int) × (Addr × Heap))))) × (((((Nat × Obj) × (LAO × Bool)) × ((Int × Addr) × (Heap × Obj))) × (((Int × Tok) × (Heap × Nat)) × ((Addr × Heap) × (Heap × Heap)))) × ((((Obj × Heap) × (Obj × Heap)) × ((Nat × Obj) × (Tok × Heap))) × (((Nat × Nat) × (Heap × Nat)) × ((Tok × Tok) × Tok))))) := ep P2 (by walk_at "ne")
@[irreducible] def pen := z2.1.1.1.1.1.1
@[irreducible] def tk2 := z2.1.1.1.1.2.2
@[irreducible] def oP := z2.1.1.1.2.1.2
@[irreducible] def a0 := z2.1.1.1.2.2.2
@[irreducible] def rows0 := z2.1.1.2.2.1.1
@[irreducible] def tags0 := z2.1.1.2.2.1.2
@[irreducible] def a1 := z2.1.1.2.2.2.1
@[irreducible] def rows1 := z2.1.2.1.1.2.2
@[irreducible] def tags1 := z2.1.2.1.2.1.1
@[irreducible] def la := z2.1.2.1.2.1.2
@[irreducible] def c0 := z2.1.2.1.2.2.2
@[irreducible] def h5 := z2.1.2.2.1.1.1
@[irreducible] def tk5 := z2.1.2.2.1.1.2
@[irreducible] def bh0 := z2.1.2.2.2.1.1
@[irreducible] def n0 := z2.1.2.2.2.1.2
@[irreducible] def c1 := z2.1.2.2.2.2.1
@[irreducible] def ro6 := z2.2.1.1.1.2.1
@[irreducible] def bh1 := z2.2.1.1.1.2.2
@[irreducible] def n1 := z2.2.1.1.2.1.1
@[irreducible] def lc := z2.2.1.1.2.1.2
@[irreducible] def dm := z2.2.1.2.1.1.1
@[irreducible] def DT := z2.2.1.2.2.1.1
@[irreducible] def oA := z2.2.2.1.1.1.1
@[irreducible] def oC := z2.2.2.1.1.2.1
@[irreducible] def tk := z2.2.2.1.2.1.1
@[irreducible] def p9 := z2.2.2.1.2.1.2
@[irreducible] def h9 := z2.2.2.1.2.2.2
def G3 : {P : Heap → (List Value) → Obj → (List Nat) → Addr → Heap → Nat → LAO → Bool → Tok → Nat → Heap → Obj → Nat → Addr → Heap → Nat → LAO → LAO → Addr → Heap → Tok → Nat → Addr → Heap → Nat → LAO → LAO → Addr → Heap → Addr → Heap → Heap → Obj → Nat → Addr → Heap → LAO → Nat → Heap → Addr → Obj → Addr → Obj → Addr → SOV → Heap → Nat → VSP → Addr → Heap → Prop // (∀ ξ16 ys px cs D5 h5 tk5 R more t9 k9 h12 oT ξ17 x0 h13 tk13 ro13 R14 D15 h15 t15 k15 x1 h16 tk16 ro16 R17 D18 ξ18 Dst ξ20 ξ21 oS tk Dt h18 R20 nst g' I oI C oC9 D m₂ h tk2 E' D21 h21, P ξ16 ys px cs D5 h5 tk5 R more t9 k9 h12 oT ξ17 x0 h13 tk13 ro13 R14 D15 h15 t15 k15 x1 h16 tk16 ro16 R17 D18 ξ18 Dst ξ20 ξ21 oS tk Dt h18 R20 nst g' I oI C oC9 D m₂ h tk2 E' D21 h21) → R2 z2 pen tk2 oP a0 rows0 tags0 a1 rows1 tags1 la c0 h5 tk5 bh0 n0 c1 ro6 bh1 n1 lc dm DT oA oC tk p9 h9} := ⟨_, by
  intro hh ξ1 ξ2 hg KX T hs hlay hL hl2 hLL hI K0 F e4 e3 e2 e1 e0 N0 X0 S qk ek hlen P2 lt2 dP AO0 AO1 l4 CO0 CO1 l6 dm0 dm1 f4 f3 f2 f1 f0 g4 g3 g2 g1 g0 AA0' AA1' CA0' CA1' LA' ofP lT dA dC P9 dn0 dn1 R10 F10 N10 ext10
  refine fillK (w := aWorld 0) ?_; k_fill; intro _ _
  k_dflt (refine CompAny.range rfl (by k_asm) (by k_asm) (by assumption) (small_one (by lia) (by lia) (by lia) (by lia)) (rangeSize_nat _ _) (by rw [PySem.sizeLine_eq]; lia) ?_)
  intro g'
  refine compRest_ind (textJ (fun px => (DT, ({ cls := .type "tuple", data := .seq #[.ref la, .ref lc, .bool (dm == 1)] } : Obj)) :: (s₁.heap.objs.size + 1 + 1 + 1 + 1 + 1, o4) :: (s₁.heap.objs.size + 1 + 1 + 1 + 1, o3) :: (s₁.heap.objs.size + 1 + 1 + 1, oC) :: (s₁.heap.objs.size + 1 + 1, oA) :: (s₁.heap.objs.size + 1, oP) :: (lc, W.listOf #[.ref c0, .ref c1] 0) :: (pen, px) :: nc ro6) (0 + 14 + 14 + 2 + 2 + 1 + 1)) ⟨p9, [], rfl, P9.to (by decide), rfl, (fun _ h => nomatch h), .nil⟩ ?turn ?fin
  case' turn =>
    rintro i ys nw v I oI C oC9 D m₂ h tk E' hi ⟨px, cs, rfl, PX, hcl, hcc, hys⟩ ⟨tv, rfl⟩ hC hx2 F N off ne
    (try dsimp only at N off)
    k_fold
    clear g0 g1 g2 g3 g4 f0 f1 f2 f3 f4
    have hp := offAt (a := pen) (o := px) off (by k_mem)
    (try dsimp only)
    w_strict k_steps
    unfold Hold
    k_dflt (refine' draw_ok (k := 0) ?k1 ?k2 ?k3 ?k4 ?k5 ?k6 ?k7 ?k8 ?_; (case k1 => exact Sit.lessM S (by decide)); (case k2 => k_asm); (case k3 => k_asm); (case k4 => k_updF); (case k5 => exact PX); (case k6 => lia); (case k7 => decide); (case k8 => decide); k_whole)
    intro p11 dx tdx h11 tk11 P11 dx0 dx1 F11 N11
    (try dsimp only at N11)
    clear F N
    w_strict (obtain hd0 | hd0 | hd0 | hd0 := four dx0 dx1 <;> subst hd0 <;> k_steps)
    all_goals first
      | exact LCg.CompEnd.intro F11 N11 _ (fun _ h => h) off trivial (textJ_snoc P11 hcl hcc hys (c := 1) (by decide +kernel) (by decide))
      | exact LCg.CompEnd.intro F11 N11 _ (fun _ h => h) off trivial (textJ_snoc P11 hcl hcc hys (c := 2) (by decide +kernel) (by decide))
      | exact LCg.CompEnd.intro F11 N11 _ (fun _ h => h) off trivial (textJ_snoc P11 hcl hcc hys (c := 0) (by decide +kernel) (by decide))
  case' fin =>
    rintro ys nw ⟨px, cs, rfl, PX, hcl, hcc, hys⟩
    intro D5 h5 tk5 F5 N5 off5
    (try dsimp only at N5)
    (try dsimp only at off5)
    (try dsimp only)
    have hc8 : cs.length ≤ 8 := by lia
    obtain ⟨R, hR⟩ : ∃ R : List (Addr × Obj), R = (D5, LCg.lst ys) :: (DT, ({ cls := .type "tuple", data := .seq #[.ref la, .ref lc, .bool (dm == 1)] } : Obj)) :: (s₁.heap.objs.size + 1 + 1 + 1, oC) :: (s₁.heap.objs.size + 1 + 1, oA) :: (s₁.heap.objs.size + 1, oP) :: (lc, W.listOf #[.ref c0, .ref c1] 0) :: (pen, px) :: nc ro6 := ⟨_, rfl⟩
    have N6 : News T.heap s₁.heap.objs.size h5 ((s₁.heap.objs.size + 1 + 1 + 1 + 1 + 1, o4) :: (s₁.heap.objs.size + 1 + 1 + 1 + 1, o3) :: R) := by rw [hR]; exact PyProof.Rows.News.perm N5 (by walk_at "sublist")
    have ofT : ∀ p ∈ R, p.1 ≠ s₁.heap.objs.size + 1 + 1 + 1 + 1 := by
      rw [hR]
      exact List.forall_mem_cons.mpr ⟨Ne.symm off5.2.2.1, List.forall_mem_cons.mpr ⟨Nat.ne_of_gt lT.2.1, List.forall_mem_cons.mpr ⟨(by k_ne), List.forall_mem_cons.mpr ⟨(by k_ne), List.forall_mem_cons.mpr ⟨(by k_ne), List.forall_mem_cons.mpr ⟨Nat.ne_of_gt g3, List.forall_mem_cons.mpr ⟨Nat.ne_of_gt lt2.2.1, f3⟩⟩⟩⟩⟩⟩⟩
    have ofS : ∀ p ∈ R, p.1 ≠ s₁.heap.objs.size + 1 + 1 + 1 + 1 + 1 := by
      rw [hR]
      exact List.forall_mem_cons.mpr ⟨Ne.symm off5.2.1, List.forall_mem_cons.mpr ⟨Nat.ne_of_gt lT.1, List.forall_mem_cons.mpr ⟨(by k_ne), List.forall_mem_cons.mpr ⟨(by k_ne), List.forall_mem_cons.mpr ⟨(by k_ne), List.forall_mem_cons.mpr ⟨Nat.ne_of_gt g4, List.forall_mem_cons.mpr ⟨Nat.ne_of_gt lt2.1, f4⟩⟩⟩⟩⟩⟩⟩
    have sbR : Sub (nc ro6) R := by rw [hR]; exact (Sub.refl _).cons.cons.cons.cons.cons.cons.cons
    have mD : (D5, W.listOf ys.toArray ys.length) ∈ R := by rw [hR]; exact .head _
    have mC : (s₁.heap.objs.size + 1 + 1 + 1, oC) ∈ R := by rw [hR]; exact .tail _ (.tail _ (.head _))
    have mA : (s₁.heap.objs.size + 1 + 1, oA) ∈ R := by rw [hR]; exact .tail _ (.tail _ (.tail _ (.head _)))
    have LCR : ListAt R lc [.ref c0, .ref c1] := by rw [hR]; exact ⟨0, .tail _ (.tail _ (.tail _ (.tail _ (.tail _ (.head _)))))⟩
    have LAR := LA'.sub sbR
    have AR0 := AA0'.sub sbR
    have AR1 := AA1'.sub sbR
    have CR0 := CA0'.sub sbR
    have CR1 := CA1'.sub sbR
    clear hR sbR LA' AA0' AA1' CA0' CA1' N5 off5 N10 F10 R10 ext10 f0 f1 f2 f3 f4 g0 g1 g2 g3 g4 lT lt2 l4 l6 ofP hs hlay hL hl2 dP PX P9 hcl hLL hI hlen
    generalize (dm == 1) = more at *
    w_strict k_steps
    k_dflt (refine join_any (by k_asm) (.tail _ (.tail _ mD)) hys (by lia) ?_)
    intro t9 k9
    k_sweep
    w_strict (
      k_with "ifexp" => (refine Hold.of ?_)
      k_steps)
    rename_i h12 oT F12 N12 dT
    unfold Hold
    k_dflt (refine lexstep_new (k := 0) (Sit.lessM S (by decide)) F12 N12 ?_)
    intro x0 h13 tk13 ro13 F13 N13 sb13 lt13 SO13
    k_sweep
    have N14 := nk_front N13 (sb13 _ (.head _))
    have of14 := nk_off N13 (sb13 _ (.head _)) (notCell_of e4)
    have sb14 : Sub R (nk (s₁.heap.objs.size + 1 + 1 + 1 + 1 + 1) ro13) := fun p hp => nk_ne (sb13 _ (.tail _ (.tail _ hp))) (ofS p hp)
    have mT14 : (s₁.heap.objs.size + 1 + 1 + 1 + 1, oT) ∈ nk (s₁.heap.objs.size + 1 + 1 + 1 + 1 + 1) ro13 := nk_ne (sb13 _ (.tail _ (.head _))) (Nat.ne_of_lt (Nat.lt_succ_self _))
    have SO14 := SO13.nk (c := s₁.heap.objs.size + 1 + 1 + 1 + 1 + 1)
    generalize nk (s₁.heap.objs.size + 1 + 1 + 1 + 1 + 1) ro13 = R14 at *
    clear N13 sb13 lt13 SO13 ofS ofT
    w_strict k_steps
    rename_i D15 h15 F15 N15 l15
    unfold Hold
    refine wpAny_mono (Q := WordP more h15 s₁) ?_ (fun v s' hbp => ?_) (fun _ _ h => h)
    focus
      w_strict (
        k_with_none
        cases more <;> k_steps)
      all_goals exact ⟨_, _, rfl, rfl⟩
    obtain ⟨t15, k15, rfl, rfl⟩ := hbp
    w_strict (
      k_with_none
      k_steps)
    unfold Hold
    k_dflt (refine lexstep_new1 (k := 0) (Sit.lessM S (by decide)) (by k_asm) (by k_asm) ?_)
    intro x1 h16 tk16 ro16 F16 N16 sb16 lt16 SO16
    k_sweep
    have N17 := nk_front N16 (sb16 _ (.tail _ (.head _)))
    have of17 := nk_off N16 (sb16 _ (.tail _ (.head _))) (notCell_of e4)
    have sb17 : Sub R14 (nk (s₁.heap.objs.size + 1 + 1 + 1 + 1 + 1) ro16) := fun p hp => nk_ne (sb16 _ (.tail _ (.tail _ hp))) (of14 p hp)
    have mD15 : (D15, W.listOf #[Value.ref x0] 0) ∈ nk (s₁.heap.objs.size + 1 + 1 + 1 + 1 + 1) ro16 := nk_mem (sb16 _ (.head _)) rfl
    have SO17 := SO16.nk (c := s₁.heap.objs.size + 1 + 1 + 1 + 1 + 1)
    generalize nk (s₁.heap.objs.size + 1 + 1 + 1 + 1 + 1) ro16 = R17 at *
    have mT17 := sb17 _ mT14
    have SO0 := SO14.sub sb17
    have sbR := sb14.trans sb17
    clear N16 sb16 lt16 SO16 of14 l15 sb14 sb17 mT14 SO14
    w_strict k_steps
    unfold Hold
    rename_i D18 _ _ Dst _ l18 _ oS dS Dt h18 F18 N18 lt18
    obtain ⟨R20, hR⟩ : ∃ R20, R20 = (Dt, ({ cls := .type "tuple", data := .seq #[Value.int 0 tk, Value.int 1 (tk + 1)] } : Obj)) :: (Dst, W.listOf #[Value.ref D15, Value.ref D18] 0) :: (D18, W.listOf #[Value.ref x1] 0) :: (s₁.heap.objs.size + 1 + 1 + 1 + 1 + 1, oS) :: R17 := ⟨_, rfl⟩
    have N20 : News T.heap s₁.heap.objs.size h18 R20 := by rw [hR]; exact N18
    have sb20 : Sub R17 R20 := by rw [hR]; exact (Sub.refl _).cons.cons.cons.cons
    have mU : (Dt, ({ cls := .type "tuple", data := .seq #[Value.int 0 tk, Value.int 1 (tk + 1)] } : Obj)) ∈ R20 := by rw [hR]; exact .head _
    have LST : ListAt R20 Dst [.ref D15, .ref D18] := by rw [hR]; exact ⟨_, .tail _ (.head _)⟩
    have L18 : ListAt R20 D18 [.ref x1] := by rw [hR]; exact ⟨_, .tail _ (.tail _ (.head _))⟩
    have mS : (s₁.heap.objs.size + 1 + 1 + 1 + 1 + 1, oS) ∈ R20 := by rw [hR]; exact .tail _ (.tail _ (.tail _ (.head _)))
    have L15 : ListAt R20 D15 [.ref x0] := ⟨_, sb20 _ mD15⟩
    have SX0 := SO0.sub sb20
    have SX1 := SO17.sub sb20
    have mT := sb20 _ mT17
    have sbR' := sbR.trans sb20
    have mC' := sbR' _ mC
    have mA' := sbR' _ mA
    have LC := LCR.sub sbR'
    have LA := LAR.sub sbR'
    have XA0 := AR0.sub sbR'
    have XA1 := AR1.sub sbR'
    have XC0 := CR0.sub sbR'
    have XC1 := CR1.sub sbR'
    clear hR N18 lt18 l18 mT17 SO0 SO17 mD15 sbR sb20 sbR' mC mA LCR LAR AR0 AR1 CR0 CR1 mD of17
    obtain ⟨nst, hst⟩ := LST
    refine CompAny.tuple rfl (by k_asm) (by k_asm) (vs := [Value.int 0 tk, Value.int 1 (tk + 1)]) mU (by simp) ?_
    intro g'
    refine LCg.CompRest.succ ?_
    intro v I oI C oC9 D m₂ h tk2 E' hv hC hx2 F N off ne
    cases hv
    (try dsimp only)
    k_fold
    w_strict k_steps
    rename_i D21 h21 F21 N21 l21
    unfold Hold
    rename_i ξ12 ξ13 ξ14 ξ15 ξ16 ξ17 ξ18 ξ19 ξ20 ξ21 ξ22
    clear ξ14 ξ15
    revert ξ1 ξ2 hg KX T K0 F e4 e3 e2 e1 e0 N0 X0 S ξ12 ξ13 P2 AO0 AO1 CO0 CO1 dm0 dm1 dA dC dn0 dn1 hcc hys hc8 dT ξ19 dS mU L18 mS L15 SX0 SX1 mT mC' mA' LC LA XA0 XA1 XC0 XC1 hst hC off ne hx2 qk ek ξ22 F21 N21 l21
    exact hh ξ16 ys px cs D5 h5 tk5 R more t9 k9 h12 oT ξ17 x0 h13 tk13 ro13 R14 D15 h15 t15 k15 x1 h16 tk16 ro16 R17 D18 ξ18 Dst ξ20 ξ21 oS tk Dt h18 R20 nst g' I oI C oC9 D m₂ h tk2 E' D21 h21⟩
def R3 (c : ((((((Heap × (List Value)) × (Obj × (List Nat))) × ((Addr × Heap) × Nat)) × (((LAO × Bool) × Tok) × ((Nat × Heap) × Obj))) × ((((Nat × Addr) × (Heap × Nat)) × ((LAO × LAO) × Addr)) × (((Heap × Tok) × Nat) × ((Addr × Heap) × Nat)))) × (((((LAO × LAO) × (Addr × Heap)) × ((Addr × Heap) × Heap)) × (((Obj × Nat) × Addr) × ((Heap × LAO) × Nat))) × ((((Heap × Addr) × Obj) × ((Addr × Obj) × Addr)) × (((SOV × Heap) × Nat) × ((VSP × Addr) × Heap)))))) := fun ys cs R more x0 D15 x1 D18 Dt R20 g' I oI C oC9 D m₂ h E' => G3.1 c.1.1.1.1.1.1 ys c.1.1.1.1.2.1 cs c.1.1.1.2.1.1 c.1.1.1.2.1.2 c.1.1.1.2.2 R more c.1.1.2.1.2 c.1.1.2.2.1.1 c.1.1.2.2.1.2 c.1.1.2.2.2 c.1.2.1.1.1.1 x0 c.1.2.1.1.2.1 c.1.2.1.1.2.2 c.1.2.1.2.1.1 c.1.2.1.2.1.2 D15 c.1.2.2.1.1.1 c.1.2.2.1.1.2 c.1.2.2.1.2 x1 c.1.2.2.2.1.2 c.1.2.2.2.2 c.2.1.1.1.1.1 c.2.1.1.1.1.2 D18 c.2.1.1.1.2.2 c.2.1.1.2.1.1 c.2.1.1.2.1.2 c.2.1.1.2.2 c.2.1.2.1.1.1 c.2.1.2.1.1.2 Dt c.2.1.2.2.1.1 R20 c.2.1.2.2.2 g' I oI C oC9 D m₂ h c.2.2.2.1.2 E' c.2.2.2.2.1.2 c.2.2.2.2.2
def P3 (c : ((((((Heap × (List Value)) × (Obj × (List Nat))) × ((Addr × Heap) × Nat)) × (((LAO × Bool) × Tok) × ((Nat × Heap) × Obj))) × ((((Nat × Addr) × (Heap × Nat)) × ((LAO × LAO) × Addr)) × (((Heap × Tok) × Nat) × ((Addr × Heap) × Nat)))) × (((((LAO × LAO) × (Addr × Heap)) × ((Addr × Heap) × Heap)) × (((Obj × Nat) × Addr) × ((Heap × LAO) × Nat))) × ((((Heap × Addr) × Obj) × ((Addr × Obj) × Addr)) × (((SOV × Heap) × Nat) × ((VSP × Addr) × Heap)))))) : Prop := R3 c c.1.1.1.1.1.2 c.1.1.1.1.2.2 c.1.1.2.1.1.1 c.1.1.2.1.1.2 c.1.2.1.1.1.2 c.1.2.1.2.2 c.1.2.2.2.1.1 c.2.1.1.1.2.1 c.2.1.2.1.2 c.2.1.2.2.1.2 c.2.2.1.1.1.1 c.2.2.1.1.1.2 c.2.2.1.1.2 c.2.2.1.2.1.1 c.2.2.1.2.1.2 c.2.2.1.2.2 c.2.2.2.1.1.1 c.2.2.2.1.1.2 c.2.2.2.2.1.1
@[irreducible] def z3 : ((((((Heap × (List Value)) × (Obj × (List Nat))) × ((Addr × Heap) × Nat)) × (((LAO × Bool) × Tok) × ((Nat × Heap) × Obj))) × ((((Nat × Addr) × (Heap × Nat)) × ((LAO × LAO) × Addr)) × (((Heap × Tok) × Nat) × ((Addr × Heap) × Nat)))) × (((((LAO × LAO) × (Addr × Heap)) × ((Addr × Heap) × Heap)) × (((Obj × Nat) × Addr) × ((Heap × LAO) × Nat))) × ((((Heap × Addr) × Obj) × ((Addr × Obj) × Addr)) × (((SOV × Heap) × Nat) × ((VSP × Addr) × Heap))))) := ep P3 (by walk_at "ne")
@[irreducible] def ys := z3.1.1.1.1.1.2
@[irreducible] def cs := z3.1.1.1.1.2.2
@[irreducible] def R := z3.1.1.2.1.1.1
@[irreducible] def more := z3.1.1.2.1.1.2
@[irreducible] def x0 := z3.1.2.1.1.1.2
@[irreducible] def D15 := z3.1.2.1.2.2
@[irreducible] def x1 := z3.1.2.2.2.1.1
@[irreducible] def D18 := z3.2.1.1.1.2.1
@[irreducible] def Dt := z3.2.1.2.1.2
@[irreducible] def R20 := z3.2.1.2.2.1.2
@[irreducible] def g' := z3.2.2.1.1.1.1
@[irreducible] def I := z3.2.2.1.1.1.2
@[irreducible] def oI := z3.2.2.1.1.2
@[irreducible] def C := z3.2.2.1.2.1.1
@[irreducible] def oC9 := z3.2.2.1.2.1.2
@[irreducible] def D := z3.2.2.1.2.2
@[irreducible] def m₂ := z3.2.2.2.1.1.1
@[irreducible] def h := z3.2.2.2.1.1.2
@[irreducible] def E' := z3.2.2.2.2.1.1
def G4 : {P : Addr → Addr → Obj → Heap → Nat → LAO → Addr → Obj → Addr → Obj → Addr → SOV → Heap → Nat → VSP → Addr → Heap → Addr → Addr → Obj → Heap → Nat → LAO → Addr → Heap → Nat → LAO → Nat → Addr → Addr → Addr → Addr → Addr → Heap → LAO → Heap → Addr → Obj → Addr → Obj → Addr → SOV → Heap → Nat → VSP → Addr → Addr → Obj → Heap → Nat → Addr → Heap → LAO → Addr → Obj → Addr → Obj → Addr → SOV → Heap → Nat → VSP → Addr → Addr → Obj → Heap → Nat → Addr → Heap → LAO → Addr → Heap → Nat → Prop // (∀ r0 ξ28 ξ29 h22 tk22 R21 ξ30 ξ31 ξ32 ξ33 ξ34 ξ35 ξ36 ξ37 ξ38 D23 h23 r1 ξ42 ξ43 h24 tk24 R22 D25 h25 tk25 R25 nla Ra0 Ta0 Ra1 Ta1 Dt h27 R27 g' ξ44 ξ45 ξ46 ξ47 ξ48 ξ49 ξ50 ξ51 ξ52 f0 d0 q0 h28 tk28 X0 h29 R29 I oI C oC9 D m₂ h tk2 E' f1 d1 q1 h30 tk30 X1 h31 R31 D32 h32 tk32, P r0 ξ28 ξ29 h22 tk22 R21 ξ30 ξ31 ξ32 ξ33 ξ34 ξ35 ξ36 ξ37 ξ38 D23 h23 r1 ξ42 ξ43 h24 tk24 R22 D25 h25 tk25 R25 nla Ra0 Ta0 Ra1 Ta1 Dt h27 R27 g' ξ44 ξ45 ξ46 ξ47 ξ48 ξ49 ξ50 ξ51 ξ52 f0 d0 q0 h28 tk28 X0 h29 R29 I oI C oC9 D m₂ h tk2 E' f1 d1 q1 h30 tk30 X1 h31 R31 D32 h32 tk32) → R3 z3 ys cs R more x0 D15 x1 D18 Dt R20 g' I oI C oC9 D m₂ h E'} := ⟨_, by
  intro hh ξ1 ξ2 hg KX T K0 F e4 e3 e2 e1 e0 N0 X0 S ξ12 ξ13 P2 AO0 AO1 CO0 CO1 dm0 dm1 dA dC dn0 dn1 hcc hys hc8 dT ξ19 dS mU L18 mS L15 SX0 SX1 mT mC' mA' LC LA XA0 XA1 XC0 XC1 hst hC off ne hx2 qk ek ξ22 F21 N21 l21
  refine fillK (w := aWorld 0) ?_; k_fill; intro _ _
  k_dflt (refine lexrule_lit (k := 0) (Sit.lessM S (by decide)) (by k_asm) (by k_asm) ?_)
  intro r0 d0 q0 h22 tk22 F22 N22 lr0 lr0' RO0
  k_sweep
  w_strict k_steps
  have I0 := lr0 _ (.tail _ (.head _))
  have C0 := lr0 _ (.tail _ (.tail _ (.head _)))
  have E0 := lr0 _ (.tail _ (.tail _ (.tail _ (.head _))))
  (try dsimp only at I0 C0 E0)
  obtain ⟨R21, hR⟩ : ∃ R21, R21 = (r0, instObj 824 d0) :: (d0, q0) :: R20 := ⟨_, rfl⟩
  have sb21 : Sub R20 R21 := by rw [hR]; exact (Sub.refl _).cons.cons
  have RO21 : RuleObj w R21 r0 D15 := by rw [hR]; exact RO0 _
  refine LCg.CompEnd.intro F22 N22 R21 (by rw [hR]; walk_at "sublist") (by rw [hR]; exact ⟨⟨Nat.ne_of_gt (Nat.lt_trans I0 lr0'), Nat.ne_of_gt (Nat.lt_trans C0 lr0'), Nat.ne_of_gt (Nat.lt_trans E0 lr0')⟩, ⟨Nat.ne_of_gt I0, Nat.ne_of_gt C0, Nat.ne_of_gt E0⟩, off⟩) ⟨_, sb21 _ mU⟩ ?_
  clear hR off F22 N22 lr0 lr0' I0 C0 E0 l21 hC hx2 ne RO0
  have hst21 := sb21 _ hst
  have mS21 := sb21 _ mS
  refine LCg.CompRest.succ ?_
  intro v I oI C oC9 D m₂ h tk2 E' hv hC hx2 F N off ne
  cases hv
  (try dsimp only)
  k_fold
  w_strict k_steps
  rename_i D23 h23 F23 N23 l23
  unfold Hold
  k_dflt (refine lexrule_lit (k := 0) (Sit.lessM S (by decide)) (by k_asm) (by k_asm) ?_)
  intro r1 d1 q1 h24 tk24 F24 N24 lr1 lr1' RO1
  k_sweep
  w_strict k_steps
  have I1 := lr1 _ (.tail _ (.head _))
  have C1 := lr1 _ (.tail _ (.tail _ (.head _)))
  have E1 := lr1 _ (.tail _ (.tail _ (.tail _ (.head _))))
  (try dsimp only at I1 C1 E1)
  obtain ⟨R22, hR⟩ : ∃ R22, R22 = (r1, instObj 824 d1) :: (d1, q1) :: R21 := ⟨_, rfl⟩
  have sb22 : Sub R21 R22 := by rw [hR]; exact (Sub.refl _).cons.cons
  have RO22 : RuleObj w R22 r1 D18 := by rw [hR]; exact RO1 _
  refine LCg.CompEnd.intro F24 N24 R22 (by rw [hR]; walk_at "sublist") (by rw [hR]; exact ⟨⟨Nat.ne_of_gt (Nat.lt_trans I1 lr1'), Nat.ne_of_gt (Nat.lt_trans C1 lr1'), Nat.ne_of_gt (Nat.lt_trans E1 lr1')⟩, ⟨Nat.ne_of_gt I1, Nat.ne_of_gt C1, Nat.ne_of_gt E1⟩, off⟩) ⟨_, sb22 _ (sb21 _ mU)⟩ ?_
  clear hR off F24 N24 lr1 lr1' I1 C1 E1 l23 hC hx2 ne RO1 hst21 mS21
  refine LCg.CompRest.zero ?_
  intro D25 h25 tk25 F25 N25 off25
  (try dsimp only)
  obtain ⟨R25, hR⟩ : ∃ R25, R25 = (D25, W.listOf #[Value.ref r0, Value.ref r1] 2) :: R22 := ⟨_, rfl⟩
  have N26 : News T.heap s₁.heap.objs.size h25 R25 := by rw [hR]; exact N25
  have sb25 : Sub R20 R25 := by rw [hR]; exact (sb21.trans sb22).cons
  have RL : RulesAt w R25 D25 more := ⟨r0, r1, D15, D18, x0, x1, _, by rw [hR]; exact ⟨_, .head _⟩, RO21.sub (by rw [hR]; exact sb22.cons), RO22.sub (by rw [hR]; exact (Sub.refl _).cons), L15.sub sb25, L18.sub sb25, SX0.sub sb25, SX1.sub sb25⟩
  have mT25 := sb25 _ mT
  have mC25 := sb25 _ mC'
  have mA25 := sb25 _ mA'
  have LC25 := LC.sub sb25
  have YC0 := XC0.sub sb25
  have YC1 := XC1.sub sb25
  obtain ⟨nla, hla⟩ := LA.sub sb25
  obtain ⟨Ra0, Ta0, tA0, RW0, TG0⟩ := XA0.sub sb25
  obtain ⟨Ra1, Ta1, tA1, RW1, TG1⟩ := XA1.sub sb25
  clear hR off25 N25 sb21 sb22 sb25 RO21 RO22 L15 L18 SX0 SX1 mT mC' mA' LC XC0 XC1 LA XA0 XA1 mU mS hst
  w_strict k_steps
  rename_i Dt h27 F27 N27 l27
  have mU : (Dt, ({ cls := .type "tuple", data := .seq #[Value.int 0 tk25, Value.int 1 (tk25 + 1)] } : Obj)) ∈ (Dt, ({ cls := .type "tuple", data := .seq #[Value.int 0 tk25, Value.int 1 (tk25 + 1)] } : Obj)) :: R25 := .head _
  generalize hR : (Dt, ({ cls := .type "tuple", data := .seq #[Value.int 0 tk25, Value.int 1 (tk25 + 1)] } : Obj)) :: R25 = R27 at N27 mU
  have sb27 : Sub R25 R27 := by rw [← hR]; exact (Sub.refl _).cons
  clear hR l27
  have mA27 := sb27 _ mA25
  have hla27 := sb27 _ hla
  have tA27 := sb27 _ tA0
  unfold Hold
  refine CompAny.tuple rfl (by k_asm) (by k_asm) (vs := [Value.int 0 tk25, Value.int 1 (tk25 + 1)]) mU (by simp) ?_
  intro g'
  refine LCg.CompRest.succ ?_
  intro v I oI C oC9 D m₂ h tk2 E' hv hC hx2 F N off ne
  cases hv
  (try dsimp only)
  k_fold
  w_strict k_steps
  unfold Hold
  k_dflt (refine dfa_lit (k := 0) (Sit.lessM S (by decide)) (by k_asm) (by k_asm) ?_)
  intro f0 d0 q0 h28 tk28 F28 N28 lr0 lr0' DO0
  k_sweep
  w_strict k_steps
  rename_i X0 h29 F29 N29 l29
  have I0 := lr0 _ (.head _)
  have C0 := lr0 _ (.tail _ (.head _))
  have E0 := lr0 _ (.tail _ (.tail _ (.head _)))
  (try dsimp only at I0 C0 E0)
  obtain ⟨R29, hR⟩ : ∃ R29, R29 = (X0, ({ cls := .type "tuple", data := .seq #[.int 0 tk25, .ref f0] } : Obj)) :: (f0, instObj 201 d0) :: (d0, q0) :: R27 := ⟨_, rfl⟩
  have sb29 : Sub R27 R29 := by rw [hR]; exact (Sub.refl _).cons.cons.cons
  have mX0 : (X0, ({ cls := .type "tuple", data := .seq #[.int 0 tk25, .ref f0] } : Obj)) ∈ R29 := by rw [hR]; exact .head _
  have DF0 : DfaAt w R29 f0 rows0 tags0 := by rw [hR]; exact (DO0 R27 rows0 tags0 (RW0.sub sb27) (TG0.sub sb27)).sub (fun _ hp => .tail _ hp)
  refine LCg.CompEnd.intro F29 N29 R29 (by rw [hR]; walk_at "sublist") (by rw [hR]; exact ⟨⟨Nat.ne_of_gt l29.2.2.1, Nat.ne_of_gt l29.2.2.2.1, Nat.ne_of_gt l29.2.2.2.2.1⟩, ⟨Nat.ne_of_gt (Nat.lt_trans I0 lr0'), Nat.ne_of_gt (Nat.lt_trans C0 lr0'), Nat.ne_of_gt (Nat.lt_trans E0 lr0')⟩, ⟨Nat.ne_of_gt I0, Nat.ne_of_gt C0, Nat.ne_of_gt E0⟩, off⟩) ⟨_, sb29 _ mU⟩ ?_
  clear hR off F29 N29 lr0 lr0' I0 C0 E0 l29 hC hx2 ne DO0
  have mA29 := sb29 _ mA27
  have hla29 := sb29 _ hla27
  have tA29 := sb29 _ (sb27 _ tA1)
  refine LCg.CompRest.succ ?_
  intro v I oI C oC9 D m₂ h tk2 E' hv hC hx2 F N off ne
  cases hv
  (try dsimp only)
  k_fold
  w_strict k_steps
  unfold Hold
  k_dflt (refine dfa_lit (k := 0) (Sit.lessM S (by decide)) (by k_asm) (by k_asm) ?_)
  intro f1 d1 q1 h30 tk30 F30 N30 lr1 lr1' DO1
  k_sweep
  w_strict k_steps
  rename_i X1 h31 F31 N31 l31
  have I1 := lr1 _ (.head _)
  have C1 := lr1 _ (.tail _ (.head _))
  have E1 := lr1 _ (.tail _ (.tail _ (.head _)))
  (try dsimp only at I1 C1 E1)
  obtain ⟨R31, hR⟩ : ∃ R31, R31 = (X1, ({ cls := .type "tuple", data := .seq #[.int 1 (tk25 + 1), .ref f1] } : Obj)) :: (f1, instObj 201 d1) :: (d1, q1) :: R29 := ⟨_, rfl⟩
  have sb31 : Sub R29 R31 := by rw [hR]; exact (Sub.refl _).cons.cons.cons
  have mX1 : (X1, ({ cls := .type "tuple", data := .seq #[.int 1 (tk25 + 1), .ref f1] } : Obj)) ∈ R31 := by rw [hR]; exact .head _
  have DF1 : DfaAt w R31 f1 rows1 tags1 := by rw [hR]; exact (DO1 R29 rows1 tags1 (RW1.sub (sb27.trans sb29)) (TG1.sub (sb27.trans sb29))).sub (fun _ hp => .tail _ hp)
  refine LCg.CompEnd.intro F31 N31 R31 (by rw [hR]; walk_at "sublist") (by rw [hR]; exact ⟨⟨Nat.ne_of_gt l31.2.2.1, Nat.ne_of_gt l31.2.2.2.1, Nat.ne_of_gt l31.2.2.2.2.1⟩, ⟨Nat.ne_of_gt (Nat.lt_trans I1 lr1'), Nat.ne_of_gt (Nat.lt_trans C1 lr1'), Nat.ne_of_gt (Nat.lt_trans E1 lr1')⟩, ⟨Nat.ne_of_gt I1, Nat.ne_of_gt C1, Nat.ne_of_gt E1⟩, off⟩) ⟨_, sb31 _ (sb29 _ mU)⟩ ?_
  clear hR off F31 N31 lr1 lr1' I1 C1 E1 l31 hC hx2 ne DO1 mA29 hla29 tA29 mA27 hla27 tA27
  refine LCg.CompRest.zero ?_
  intro D32 h32 tk32 F32 N32 off32
  (try dsimp only)
  w_strict k_steps
  have hbig : sysModules < T.heap.objs.size := Nat.lt_of_lt_of_le (by decide) (Nat.le_of_lt (Heap.lt_size (KX 843 _ (by k_is))))
  unfold Hold
  rename_i ξ23 ξ24 ξ25 ξ26 ξ27 ξ28 ξ29 ξ30 ξ31 ξ32 ξ33 ξ34 ξ35 ξ36 ξ37 ξ38 ξ39 ξ40 ξ41 ξ42 ξ43 ξ44 ξ45 ξ46 ξ47 ξ48 ξ49 ξ50 ξ51 ξ52 ξ53 ξ54 ξ55 ξ56
  clear ξ26 ξ27
  revert ξ1 ξ2 hg KX T K0 F e4 e3 e2 e1 e0 N0 ξ23 S ξ12 ξ13 P2 AO0 AO1 CO0 CO1 dm0 dm1 dA dC dn0 dn1 hcc hys hc8 dT ξ19 dS ξ24 ξ25 ξ22 ξ39 ξ40 ξ41 RL mT25 mC25 mA25 LC25 YC0 YC1 hla tA0 RW0 TG0 tA1 RW1 TG1 mU sb27 ξ53 ξ54 ξ55 sb29 mX0 DF0 qk ek ξ56 sb31 mX1 DF1 F32 N32 off32 hbig
  exact hh r0 ξ28 ξ29 h22 tk22 R21 ξ30 ξ31 ξ32 ξ33 ξ34 ξ35 ξ36 ξ37 ξ38 D23 h23 r1 ξ42 ξ43 h24 tk24 R22 D25 h25 tk25 R25 nla Ra0 Ta0 Ra1 Ta1 Dt h27 R27 g' ξ44 ξ45 ξ46 ξ47 ξ48 ξ49 ξ50 ξ51 ξ52 f0 d0 q0 h28 tk28 X0 h29 R29 I oI C oC9 D m₂ h tk2 E' f1 d1 q1 h30 tk30 X1 h31 R31 D32 h32 tk32⟩
def R4 (c : (((((((Addr × Addr) × Obj) × (Heap × Nat)) × (((LAO × Addr) × Obj) × (Addr × Obj))) × ((((Addr × SOV) × Heap) × (Nat × VSP)) × ((Addr × Heap) × (Addr × Addr)))) × (((((Obj × Heap) × Nat) × (LAO × Addr)) × ((Heap × Nat) × (LAO × Nat))) × ((((Addr × Addr) × Addr) × (Addr × Addr)) × ((Heap × LAO) × (Heap × Addr))))) × ((((((Obj × Addr) × Obj) × (Addr × SOV)) × ((Heap × Nat) × (VSP × Addr))) × ((((Addr × Obj) × Heap) × (Nat × Addr)) × ((Heap × LAO) × (Addr × Obj)))) × (((((Addr × Obj) × Addr) × (SOV × Heap)) × ((Nat × VSP) × (Addr × Addr))) × ((((Obj × Heap) × Nat) × (Addr × Heap)) × ((LAO × Addr) × (Heap × Nat))))))) := fun D25 R25 Ra0 Ta0 Ra1 Ta1 f0 f1 q1 => G4.1 c.1.1.1.1.1.1.1 c.1.1.1.1.1.1.2 c.1.1.1.1.1.2 c.1.1.1.1.2.1 c.1.1.1.1.2.2 c.1.1.1.2.1.1.1 c.1.1.1.2.1.1.2 c.1.1.1.2.1.2 c.1.1.1.2.2.1 c.1.1.1.2.2.2 c.1.1.2.1.1.1.1 c.1.1.2.1.1.1.2 c.1.1.2.1.1.2 c.1.1.2.1.2.1 c.1.1.2.1.2.2 c.1.1.2.2.1.1 c.1.1.2.2.1.2 c.1.1.2.2.2.1 c.1.1.2.2.2.2 c.1.2.1.1.1.1.1 c.1.2.1.1.1.1.2 c.1.2.1.1.1.2 c.1.2.1.1.2.1 D25 c.1.2.1.2.1.1 c.1.2.1.2.1.2 R25 c.1.2.1.2.2.2 Ra0 Ta0 Ra1 Ta1 c.1.2.2.1.2.2 c.1.2.2.2.1.1 c.1.2.2.2.1.2 c.1.2.2.2.2.1 c.1.2.2.2.2.2 c.2.1.1.1.1.1.1 c.2.1.1.1.1.1.2 c.2.1.1.1.1.2 c.2.1.1.1.2.1 c.2.1.1.1.2.2 c.2.1.1.2.1.1 c.2.1.1.2.1.2 c.2.1.1.2.2.1 f0 c.2.1.2.1.1.1.1 c.2.1.2.1.1.1.2 c.2.1.2.1.1.2 c.2.1.2.1.2.1 c.2.1.2.1.2.2 c.2.1.2.2.1.1 c.2.1.2.2.1.2 c.2.1.2.2.2.1 c.2.1.2.2.2.2 c.2.2.1.1.1.1.1 c.2.2.1.1.1.1.2 c.2.2.1.1.1.2 c.2.2.1.1.2.1 c.2.2.1.1.2.2 c.2.2.1.2.1.1 c.2.2.1.2.1.2 f1 c.2.2.1.2.2.2 q1 c.2.2.2.1.1.1.2 c.2.2.2.1.1.2 c.2.2.2.1.2.1 c.2.2.2.1.2.2 c.2.2.2.2.1.1 c.2.2.2.2.1.2 c.2.2.2.2.2.1 c.2.2.2.2.2.2
def P4 (c : (((((((Addr × Addr) × Obj) × (Heap × Nat)) × (((LAO × Addr) × Obj) × (Addr × Obj))) × ((((Addr × SOV) × Heap) × (Nat × VSP)) × ((Addr × Heap) × (Addr × Addr)))) × (((((Obj × Heap) × Nat) × (LAO × Addr)) × ((Heap × Nat) × (LAO × Nat))) × ((((Addr × Addr) × Addr) × (Addr × Addr)) × ((Heap × LAO) × (Heap × Addr))))) × ((((((Obj × Addr) × Obj) × (Addr × SOV)) × ((Heap × Nat) × (VSP × Addr))) × ((((Addr × Obj) × Heap) × (Nat × Addr)) × ((Heap × LAO) × (Addr × Obj)))) × (((((Addr × Obj) × Addr) × (SOV × Heap)) × ((Nat × VSP) × (Addr × Addr))) × ((((Obj × Heap) × Nat) × (Addr × Heap)) × ((LAO × Addr) × (Heap × Nat))))))) : Prop := R4 c c.1.2.1.1.2.2 c.1.2.1.2.2.1 c.1.2.2.1.1.1.1 c.1.2.2.1.1.1.2 c.1.2.2.1.1.2 c.1.2.2.1.2.1 c.2.1.1.2.2.2 c.2.2.1.2.2.1 c.2.2.2.1.1.1.1
@[irreducible] def z4 : (((((((Addr × Addr) × Obj) × (Heap × Nat)) × (((LAO × Addr) × Obj) × (Addr × Obj))) × ((((Addr × SOV) × Heap) × (Nat × VSP)) × ((Addr × Heap) × (Addr × Addr)))) × (((((Obj × Heap) × Nat) × (LAO × Addr)) × ((Heap × Nat) × (LAO × Nat))) × ((((Addr × Addr) × Addr) × (Addr × Addr)) × ((Heap × LAO) × (Heap × Addr))))) × ((((((Obj × Addr) × Obj) × (Addr × SOV)) × ((Heap × Nat) × (VSP × Addr))) × ((((Addr × Obj) × Heap) × (Nat × Addr)) × ((Heap × LAO) × (Addr × Obj)))) × (((((Addr × Obj) × Addr) × (SOV × Heap)) × ((Nat × VSP) × (Addr × Addr))) × ((((Obj × Heap) × Nat) × (Addr × Heap)) × ((LAO × Addr) × (Heap × Nat)))))) := ep P4 (by walk_at "ne")
@[irreducible] def D25 := z4.1.2.1.1.2.2
@[irreducible] def R25 := z4.1.2.1.2.2.1
@[irreducible] def Ra0 := z4.1.2.2.1.1.1.1
@[irreducible] def Ta0 := z4.1.2.2.1.1.1.2
@[irreducible] def Ra1 := z4.1.2.2.1.1.2
@[irreducible] def Ta1 := z4.1.2.2.1.2.1
@[irreducible] def f0 := z4.2.1.1.2.2.2
@[irreducible] def f1 := z4.2.2.1.2.2.1
@[irreducible] def q1 := z4.2.2.2.1.1.1.1
def G5 : {P : Addr → Heap → Nat → LAO → Nat → Heap → Nat → Addr → Heap → LAO → Tok → Tok → Tok → Tok → Heap → (List Value) → LAO → (List (Int × Value)) → Addr → Heap → Nat → Addr → Heap → Nat → LAO → Heap → Nat → Addr → Heap → Nat → LAO → Addr → Heap → Nat → LAO → Addr → Heap → Prop // (∀ he h33 tk33 R33 nlc ξ59 ξ60 Dt h34 R34 tc0 uc0 tc1 uc1 g' ys nw kvs D38 h38 tk38 gv h39 tk39 R39 ξ61 tk xa h40 tk40 nwA xb h41 tk41 nwB l42 h42, P he h33 tk33 R33 nlc ξ59 ξ60 Dt h34 R34 tc0 uc0 tc1 uc1 g' ys nw kvs D38 h38 tk38 gv h39 tk39 R39 ξ61 tk xa h40 tk40 nwA xb h41 tk41 nwB l42 h42) → R4 z4 D25 R25 Ra0 Ta0 Ra1 Ta1 f0 f1 q1} := ⟨_, by
  intro hh ξ1 ξ2 hg KX T K0 F e4 e3 e2 e1 e0 N0 ξ23 S ξ12 ξ13 P2 AO0 AO1 CO0 CO1 dm0 dm1 dA dC dn0 dn1 hcc hys hc8 dT ξ19 dS ξ24 ξ25 ξ22 ξ39 ξ40 ξ41 RL mT25 mC25 mA25 LC25 YC0 YC1 hla tA0 RW0 TG0 tA1 RW1 TG1 mU sb27 ξ53 ξ54 ξ55 sb29 mX0 DF0 qk ek ξ56 sb31 mX1 DF1 F32 N32 off32 hbig
  refine fillK (w := aWorld 0) ?_; k_fill; intro _ _
  k_dflt (refine dict_pairs (kvs := [(0, .ref f0), (1, .ref f1)]) rfl hbig (by k_asm) (by k_asm) (.head _) (.cons (.tail _ (sb31 _ mX0)) (.cons (.tail _ mX1) .nil)) (by simp) (by simp) ?_)
  intro he h33 tk33 R33 F33 N33 sb33 DH
  have sbX : Sub R25 R33 := fun p hp => sb33 _ (.tail _ (sb31 _ (sb29 _ (sb27 _ hp))))
  have HE : HeldAt w R33 he ⟨fun k => if k = 0 then rows0 else rows1, fun k => if k = 0 then tags0 else tags1⟩ := ⟨_, f0, f1, DH, rfl, rfl, DF0.sub (fun p hp => sb33 _ (.tail _ (sb31 _ hp))), DF1.sub (fun p hp => sb33 _ (.tail _ hp))⟩
  have RL33 := RL.sub sbX
  have mT33 := sbX _ mT25
  have mC33 := sbX _ mC25
  have mA33 := sbX _ mA25
  have hla33 := sbX _ hla
  have AA0 : AutoAt R33 a0 rows0 tags0 := ⟨Ra0, Ta0, sbX _ tA0, RW0.sub sbX, TG0.sub sbX⟩
  have AA1 : AutoAt R33 a1 rows1 tags1 := ⟨Ra1, Ta1, sbX _ tA1, RW1.sub sbX, TG1.sub sbX⟩
  obtain ⟨nlc, hlc⟩ := LC25.sub sbX
  have YC0' := YC0.sub sbX
  have YC1' := YC1.sub sbX
  clear sbX RL mT25 mC25 mA25 hla tA0 tA1 RW0 RW1 TG0 TG1 LC25 YC0 YC1 DF0 DF1 DH mX0 mX1 mU off32 sb27 sb29 sb31 sb33
  k_sweep
  w_strict k_steps
  unfold Hold
  rename_i Dt h34 F34 N34 l34
  have mU : (Dt, ({ cls := .type "tuple", data := .seq #[Value.int 0 tk, Value.int 1 (tk + 1)] } : Obj)) ∈ (Dt, ({ cls := .type "tuple", data := .seq #[Value.int 0 tk, Value.int 1 (tk + 1)] } : Obj)) :: R33 := .head _
  generalize hR : (Dt, ({ cls := .type "tuple", data := .seq #[Value.int 0 tk, Value.int 1 (tk + 1)] } : Obj)) :: R33 = R34 at N34 mU
  have sb34 : Sub R33 R34 := by rw [← hR]; exact (Sub.refl _).cons
  clear hR l34
  have mC34 := sb34 _ mC33
  have hlc34 := sb34 _ hlc
  obtain ⟨tc0, uc0, tC0⟩ := YC0'.sub sb34
  obtain ⟨tc1, uc1, tC1⟩ := YC1'.sub sb34
  refine SrcTT.tuple rfl (by k_asm) (by k_asm) (vs := [Value.int 0 tk, Value.int 1 (tk + 1)]) mU (by simp) ?_
  intro g'
  refine compRestT_ind (GivJ w R34 (fun i => if i = 0 then (bh0, n0) else (bh1, n1))) GivJ.zero ?turnC ?finC
  case' turnC =>
    intro i ys nw v I oI C oC9 D m₂ h tk2 E' hi HJ hv hC hx2 F N off ne
    have sbJ := HJ.sb
    have mC35 := sbJ _ mC34
    have hlc35 := sbJ _ hlc34
    have tC0' := sbJ _ tC0
    have tC1' := sbJ _ tC1
    have mU' := sbJ _ mU
    (try dsimp only)
    have hi2 : i = 0 ∨ i = 1 := by simp only [List.length_cons, List.length_nil] at hi; lia
    rcases hi2 with rfl | rfl <;> cases hv
  case' turnC.inl =>
    (try k_unmd)
    k_fold
    w_strict k_steps
    focus
      rename_i D35 h35 F35 N35 l35 hb
      exact LCg.CompEnd.intro F35 N35 nw (by walk_at "sublist") off ⟨_, mU'⟩ (HJ.skip (i := 0) (cut_empty hb))
    rename_i D35 h35 F35 N35 l35 hb cE qk0 ek0
    unfold Hold
    k_dflt (refine cut_lit (k := 0) (Sit.lessM S (by decide)) (by k_asm) (by k_asm) ?_)
    intro f d q h36 tk36 F36 N36 lr lr' CT
    k_sweep
    w_strict k_steps
    rename_i X h37 F37 N37 l37
    have HI := lr _ (.tail _ (.head _))
    have HC := lr _ (.tail _ (.tail _ (.head _)))
    have HD := lr _ (.tail _ (.tail _ (.tail _ (.head _))))
    (try dsimp only at HI HC HD)
    exact LCg.CompEnd.intro F37 N37 ((X, ({ cls := .type "tuple", data := .seq #[.int 0 tk, .ref f] } : Obj)) :: (f, instObj 230 d) :: (d, q) :: nw) (by walk_at "sublist")
      ⟨⟨Nat.ne_of_gt (Nat.lt_trans (Nat.lt_trans HI lr') l37.1), Nat.ne_of_gt (Nat.lt_trans (Nat.lt_trans HC lr') l37.1), Nat.ne_of_gt (Nat.lt_trans (Nat.lt_trans HD lr') l37.1)⟩, ⟨Nat.ne_of_gt (Nat.lt_trans HI lr'), Nat.ne_of_gt (Nat.lt_trans HC lr'), Nat.ne_of_gt (Nat.lt_trans HD lr')⟩, ⟨Nat.ne_of_gt HI, Nat.ne_of_gt HC, Nat.ne_of_gt HD⟩, off⟩ ⟨_, .tail _ (.tail _ (.tail _ mU'))⟩
      (HJ.add (i := 0) (Sub.refl _).cons.cons.cons (.head _) ((CT nw).sub (Sub.refl _).cons))
  case' turnC.inr =>
    (try k_unmd)
    k_fold
    w_strict k_steps
    focus
      rename_i D35 h35 F35 N35 l35 hb
      exact LCg.CompEnd.intro F35 N35 nw (by walk_at "sublist") off ⟨_, mU'⟩ (HJ.skip (i := 1) (cut_empty hb))
    rename_i D35 h35 F35 N35 l35 hb cE qk0 ek0
    unfold Hold
    k_dflt (refine cut_lit (k := 0) (Sit.lessM S (by decide)) (by k_asm) (by k_asm) ?_)
    intro f d q h36 tk36 F36 N36 lr lr' CT
    k_sweep
    w_strict k_steps
    rename_i X h37 F37 N37 l37
    have HI := lr _ (.tail _ (.head _))
    have HC := lr _ (.tail _ (.tail _ (.head _)))
    have HD := lr _ (.tail _ (.tail _ (.tail _ (.head _))))
    (try dsimp only at HI HC HD)
    exact LCg.CompEnd.intro F37 N37 ((X, ({ cls := .type "tuple", data := .seq #[.int 1 (tk + 1), .ref f] } : Obj)) :: (f, instObj 230 d) :: (d, q) :: nw) (by walk_at "sublist")
      ⟨⟨Nat.ne_of_gt (Nat.lt_trans (Nat.lt_trans HI lr') l37.1), Nat.ne_of_gt (Nat.lt_trans (Nat.lt_trans HC lr') l37.1), Nat.ne_of_gt (Nat.lt_trans (Nat.lt_trans HD lr') l37.1)⟩, ⟨Nat.ne_of_gt (Nat.lt_trans HI lr'), Nat.ne_of_gt (Nat.lt_trans HC lr'), Nat.ne_of_gt (Nat.lt_trans HD lr')⟩, ⟨Nat.ne_of_gt HI, Nat.ne_of_gt HC, Nat.ne_of_gt HD⟩, off⟩ ⟨_, .tail _ (.tail _ (.tail _ mU'))⟩
      (HJ.add (i := 1) (Sub.refl _).cons.cons.cons (.head _) ((CT nw).sub (Sub.refl _).cons))
  case' finC =>
    intro ys nw HJ
    obtain ⟨kvs, sbJ, hP, hnd, hk1, hy1, hGV⟩ := HJ.fin
    intro D38 h38 tk38 F38 N38 off38
    (try dsimp only)
    w_strict k_steps
    unfold Hold
    k_dflt (refine dict_pairs (kvs := kvs) rfl hbig (by k_asm) (by k_asm) (vs := ys) (.head _) (hP.sub (Sub.refl _).cons) hnd hk1 ?_)
    intro gv h39 tk39 R39 F39 N39 sb39 DG
    have sbX : Sub R33 R39 := fun p hp => sb39 _ (.tail _ (sbJ _ (sb34 _ hp)))
    have GV := hGV R39 gv (fun p hp => sb39 _ (.tail _ hp)) DG
    have HE39 := HE.sub sbX
    have RL39 := RL33.sub sbX
    have mT39 := sbX _ mT33
    have mC39 := sbX _ mC33
    have mA39 := sbX _ mA33
    have LA39 : ListAt R39 la [.ref a0, .ref a1] := ⟨_, sbX _ hla33⟩
    have AA0' := AA0.sub sbX
    have AA1' := AA1.sub sbX
    have CU : CutsAt R39 lc (fun i => if i = 0 then (bh0, n0) else (bh1, n1)) := ⟨c0, c1, ⟨_, sbX _ hlc⟩, YC0'.sub sbX, YC1'.sub sbX⟩
    clear sbX HJ sbJ hP hnd hk1 hy1 hGV off38 sb39 DG mU sb34 mC34 hlc34 tC0 tC1 AA0 AA1 YC0' YC1' hla33 hlc HE RL33 mT33 mC33 mA33
    k_sweep
    w_strict k_steps
    unfold Hold
    k_dflt (refine of_a (k := 0) (Sit.lessM S (by decide)) (by k_asm) (by k_asm) ?_)
    intro xa h40 tk40 nwA F40 N40 zA CA
    k_sweep
    w_strict k_steps
    unfold Hold
    k_dflt (refine of_b (k := 0) (Sit.lessM S (by decide)) (by k_asm) (by k_asm) ?_)
    intro xb h41 tk41 nwB F41 N41 zB CB
    k_sweep
    w_strict k_steps
    rename_i l42 h42 F42 N42 lt42
    unfold Hold
    rename_i ξ57 ξ58 ξ59 ξ60 ξ61
    clear ξ57 ξ58
    revert ξ1 ξ2 hg KX T K0 F e4 e3 e2 e1 e0 N0 ξ23 S ξ12 ξ13 P2 AO0 AO1 CO0 CO1 dm0 dm1 dA dC dn0 dn1 hcc hys hc8 dT ξ19 dS ξ24 ξ25 ξ22 ξ39 ξ40 ξ41 ξ53 ξ54 ξ55 qk ek ξ56 hbig GV HE39 RL39 mT39 mC39 mA39 LA39 AA0' AA1' CU zA CA zB CB F42 N42 lt42
    exact hh he h33 tk33 R33 nlc ξ59 ξ60 Dt h34 R34 tc0 uc0 tc1 uc1 g' ys nw kvs D38 h38 tk38 gv h39 tk39 R39 ξ61 tk xa h40 tk40 nwA xb h41 tk41 nwB l42 h42⟩
def R5 (c : ((((((Addr × Heap) × Nat) × (LAO × Nat)) × (((Heap × Nat) × Addr) × (Heap × LAO))) × ((((Tok × Tok) × Tok) × (Tok × Heap)) × (((List Value) × LAO) × ((List (Int × Value)) × Addr)))) × (((((Heap × Nat) × Addr) × (Heap × Nat)) × ((LAO × Heap) × (Nat × Addr))) × ((((Heap × Nat) × LAO) × (Addr × Heap)) × ((Nat × LAO) × (Addr × Heap)))))) := fun he nw gv R39 => G5.1 he c.1.1.1.1.1.2 c.1.1.1.1.2 c.1.1.1.2.1 c.1.1.1.2.2 c.1.1.2.1.1.1 c.1.1.2.1.1.2 c.1.1.2.1.2 c.1.1.2.2.1 c.1.1.2.2.2 c.1.2.1.1.1.1 c.1.2.1.1.1.2 c.1.2.1.1.2 c.1.2.1.2.1 c.1.2.1.2.2 c.1.2.2.1.1 nw c.1.2.2.2.1 c.1.2.2.2.2 c.2.1.1.1.1.1 c.2.1.1.1.1.2 gv c.2.1.1.2.1 c.2.1.1.2.2 R39 c.2.1.2.1.2 c.2.1.2.2.1 c.2.1.2.2.2 c.2.2.1.1.1.1 c.2.2.1.1.1.2 c.2.2.1.1.2 c.2.2.1.2.1 c.2.2.1.2.2 c.2.2.2.1.1 c.2.2.2.1.2 c.2.2.2.2.1 c.2.2.2.2.2
def P5 (c : ((((((Addr × Heap) × Nat) × (LAO × Nat)) × (((Heap × Nat) × Addr) × (Heap × LAO))) × ((((Tok × Tok) × Tok) × (Tok × Heap)) × (((List Value) × LAO) × ((List (Int × Value)) × Addr)))) × (((((Heap × Nat) × Addr) × (Heap × Nat)) × ((LAO × Heap) × (Nat × Addr))) × ((((Heap × Nat) × LAO) × (Addr × Heap)) × ((Nat × LAO) × (Addr × Heap)))))) : Prop := R5 c c.1.1.1.1.1.1 c.1.2.2.1.2 c.2.1.1.1.2 c.2.1.2.1.1
@[irreducible] def z5 : ((((((Addr × Heap) × Nat) × (LAO × Nat)) × (((Heap × Nat) × Addr) × (Heap × LAO))) × ((((Tok × Tok) × Tok) × (Tok × Heap)) × (((List Value) × LAO) × ((List (Int × Value)) × Addr)))) × (((((Heap × Nat) × Addr) × (Heap × Nat)) × ((LAO × Heap) × (Nat × Addr))) × ((((Heap × Nat) × LAO) × (Addr × Heap)) × ((Nat × LAO) × (Addr × Heap))))) := ep P5 (by walk_at "ne")
@[irreducible] def he := z5.1.1.1.1.1.1
@[irreducible] def nw := z5.1.2.2.1.2
@[irreducible] def gv := z5.2.1.1.1.2
@[irreducible] def R39 := z5.2.1.2.1.1
def G6 : {P : Addr → Heap → Nat → LAO → Heap → Nat → Addr → Heap → Addr → Heap → Obj → LAO → Addr → Addr → Heap → Nat → LAO → Heap → Nat → Autos → (Int → Bool × Int) → Addr → Heap → Nat → LAO → (List Turn) → Addr → Addr → (List Addr) → (List Addr) → Tok → Nat → Nat → Str → Heap → Heap → Heap → Heap → Nat → Addr → Addr → Addr → Addr → Addr → Heap → Nat → LAO → Tok → Tok → Tok → Tok → Tok → Tok → Tok → Tok → Tok → Tok → Tok → Tok → Tok → Tok → Tok → Tok → Tok → Tok → Tok → Tok → Tok → Tok → Heap → Nat → Prop // (∀ clx h43 tk43 R43 ξ65 ξ66 nm ξ67 ed h44 oe R44 tb er h46 tk46 R46 ξ69 ξ70 au cuts du h47 tk47 R47 ts tud kkd tad kad tde nd1 nd2 ec ξ71 ξ72 ξ73 ξ74 ξ75 sc ds tu pl nl h50 tk50 R50 k1 k2 k3 k4 k5 k6 k7 k8 k9' k10 k11 k12 k13 k14 k15' u1 u2 u3 u4 u5 u6 u7 ξ76 tk, P clx h43 tk43 R43 ξ65 ξ66 nm ξ67 ed h44 oe R44 tb er h46 tk46 R46 ξ69 ξ70 au cuts du h47 tk47 R47 ts tud kkd tad kad tde nd1 nd2 ec ξ71 ξ72 ξ73 ξ74 ξ75 sc ds tu pl nl h50 tk50 R50 k1 k2 k3 k4 k5 k6 k7 k8 k9' k10 k11 k12 k13 k14 k15' u1 u2 u3 u4 u5 u6 u7 ξ76 tk) → R5 z5 he nw gv R39} := ⟨_, by
  intro hh ξ1 ξ2 hg KX T K0 F e4 e3 e2 e1 e0 N0 ξ23 S ξ12 ξ13 P2 AO0 AO1 CO0 CO1 dm0 dm1 dA dC dn0 dn1 hcc hys hc8 dT ξ19 dS ξ24 ξ25 ξ22 ξ39 ξ40 ξ41 ξ53 ξ54 ξ55 qk ek ξ56 hbig GV HE39 RL39 mT39 mC39 mA39 LA39 AA0' AA1' CU zA CA zB CB F42 N42 lt42
  refine fillK (w := aWorld 0) ?_; k_fill; intro _ _
  k_dflt (refine classes_ok (k := 0) (Sit.lessM S (by decide)) F42 N42 (fun p hp => Nat.ne_of_lt (lt42 p (List.mem_append.mpr (.inr (List.mem_append.mpr (.inr hp)))))) zA zB CA CB ?_)
  intro clx h43 tk43 R43 F43 N43 sb43 _ CL
  clear zA zB CA CB lt42
  k_sweep
  w_strict k_steps
  rename_i nm _ _ _ lnm ed h44 oe F44 N44 loE hsE fsE hiE fiE led
  obtain ⟨R44, hR⟩ : ∃ R44, R44 = (ed, oe) :: (nm, W.listOf #[Value.str (Str.ofString "INITIAL") tk] 0) :: R43 := ⟨_, rfl⟩
  have N45 : News T.heap s₁.heap.objs.size h44 R44 := by rw [hR]; exact N44
  have sb44 : Sub R39 R44 := by rw [hR]; exact fun p hp => .tail _ (.tail _ (sb43 _ hp))
  have EN : DAt w R44 ed [] := by rw [hR]; exact ⟨oe, .head _, hiE, loE⟩
  have CL44 : ClassesAt w R44 clx := by rw [hR]; exact CL.sub (fun _ hp => .tail _ (.tail _ hp))
  have RL44 := RL39.sub sb44
  clear hR lnm led N44 hiE loE CL hsE fsE fiE
  unfold Hold
  k_dflt (refine tables_new (k := 0) (a := ⟨clx, nm, he, D25, gv, ed, 0⟩) (more := more) (Sit.lessM S (by decide)) (by k_asm) N45 RL44 EN ?_)
  intro tb er h46 tk46 R46 F46 N46 sb46 _ TB
  have sbX : Sub R39 R46 := fun p hp => sb46 _ (sb44 _ hp)
  have EN46 := EN.sub sb46
  have CL46 : ClassesAt w R46 clx := CL44.sub sb46
  have RL46 := RL44.sub sb46
  have GV46 := GV.sub sbX
  have HE46 := HE39.sub sbX
  have LA46 := LA39.sub sbX
  have AA0 := AA0'.sub sbX
  have AA1 := AA1'.sub sbX
  have CU46 : CutsAt R46 lc _ := CU.sub sbX
  have mT46 := sbX _ mT39
  have mC46 := sbX _ mC39
  have mA46 := sbX _ mA39
  clear sbX sb44 sb46 sb43 EN CL44 RL44 GV HE39 LA39 AA0' AA1' CU mT39 mC39 mA39 RL39 N45
  k_sweep
  w_strict k_steps
  unfold Hold
  have TB46 : TablesAt w R46 tb ⟨clx, nm, he, D25, gv, ed, er⟩ := TB
  generalize hau : (⟨fun k => if k = 0 then rows0 else rows1, fun k => if k = 0 then tags0 else tags1⟩ : Autos) = au at HE46
  have AX0 : AutoAt R46 a0 (au.rows 0) (au.tags 0) := by rw [← hau]; exact AA0
  have AX1 : AutoAt R46 a1 (au.rows 1) (au.tags 1) := by rw [← hau]; exact AA1
  have OX0 : AutoOk (au.rows 0) (au.tags 0) := by rw [← hau]; exact AO0
  have OX1 : AutoOk (au.rows 1) (au.tags 1) := by rw [← hau]; exact AO1
  generalize (fun i : Int => if i = 0 then (bh0, n0) else (bh1, n1)) = cuts at GV46 CU46
  clear hau AA0 AA1 AO0 AO1 TB
  k_dflt (refine due_ok (k := 0) (a := au) (cuts := cuts) (Sit.lessM S (by decide)) (by k_asm) (by k_asm) LA46 AX0 OX0 AX1 OX1 CU46 hc8 hcc ?_)
  intro du h47 tk47 R47 F47 N47 sb47 DU
  clear LA46 AX0 AX1 CU46 mA46 mC46
  have TB47 := TB46.sub sb47
  have EN47 := EN46.sub sb47
  have CL47 : ClassesAt w R47 clx := CL46.sub sb47
  have RL47 := RL46.sub sb47
  have GV47 := GV46.sub sb47
  have HE47 := HE46.sub sb47
  have mT47 := sb47 _ mT46
  generalize hts : dueD au cuts more cs cs.length 0 0 = ts at DU
  obtain ⟨tud, kkd, tad, kad, tde, DT1, ⟨nd1, DT2⟩, DT3, ⟨nd2, DT4⟩, DT5⟩ := DU
  generalize hec : echoD cs more ts (Str.ofString "") = ec at DT1
  have DT1' : (du, ({ cls := .type "tuple", data := .seq #[.ref tud, .ref kkd, .str ec tde] } : Obj)) ∈ R47 := DT1
  clear DT1
  clear TB46 EN46 CL46 RL46 GV46 HE46 mT46 sb47
  k_sweep
  w_strict k_steps
  unfold Hold
  k_dflt (refine scan_new (k := 0) (Sit.lessM S (by decide)) (by k_asm) (by k_asm) TB47 CL47 hc8 hcc ?_)
  intro sc ds tu pl nl h50 tk50 o50 R50 F50 N50 of51 of52 ne5 sb50 hsc50 hnl50 SO50
  have K5 : EnvOk ⟨sc, ds, ⟨nm, pl, tu, tb, nl⟩, ⟨clx, nm, he, D25, gv, ed, er⟩, au, cuts, cs, more⟩ := ⟨OX0, OX1, hc8, hcc⟩
  have RR5 : RoAt w R50 ⟨sc, ds, ⟨nm, pl, tu, tb, nl⟩, ⟨clx, nm, he, D25, gv, ed, er⟩, au, cuts, cs, more⟩ := ⟨hsc50, TB47.sub sb50, HE47.sub sb50, GV47.sub sb50, RL47.sub sb50, EN47.sub sb50, hnl50⟩
  have ST5 : ScSt w ⟨sc, ds, ⟨nm, pl, tu, tb, nl⟩, ⟨clx, nm, he, D25, gv, ed, er⟩, au, cuts, cs, more⟩ o50 [] 0 := ⟨0, Str.ofString "", false, SO50, Nat.le_refl _, Nat.zero_le _, Nat.le_refl _, rfl, Nat.le_refl _, rfl⟩
  obtain ⟨k1, k2, k3, k4, k5, k6, k7, k8, k9', k10, k11, k12, k13, k14, k15', u1, u2, u3, u4, u5, u6, u7, rfl⟩ := SO50
  k_sweep
  w_strict k_steps
  unfold Hold
  rename_i ξ62 ξ63 ξ64 ξ65 ξ66 ξ67 ξ68 ξ69 ξ70 ξ71 ξ72 ξ73 ξ74 ξ75 ξ76 ξ77 ξ78
  clear ξ62 ξ63
  revert ξ1 ξ2 hg KX T K0 e4 e3 e2 e1 e0 ξ23 S ξ12 ξ13 P2 CO0 CO1 dm0 dm1 dA dC dn0 dn1 hcc hys hc8 dT ξ19 dS ξ24 ξ25 ξ22 ξ39 ξ40 ξ41 ξ53 ξ54 ξ55 qk ek ξ56 hbig ξ64 F44 ξ68 OX0 OX1 TB47 EN47 CL47 RL47 GV47 HE47 mT47 hts DT3 DT5 DT2 DT4 hec DT1' of51 of52 ne5 sb50 hsc50 hnl50 K5 RR5 ST5 ξ77 ξ78
  exact hh clx h43 tk43 R43 ξ65 ξ66 nm ξ67 ed h44 oe R44 tb er h46 tk46 R46 ξ69 ξ70 au cuts du h47 tk47 R47 ts tud kkd tad kad tde nd1 nd2 ec ξ71 ξ72 ξ73 ξ74 ξ75 sc ds tu pl nl h50 tk50 R50 k1 k2 k3 k4 k5 k6 k7 k8 k9' k10 k11 k12 k13 k14 k15' u1 u2 u3 u4 u5 u6 u7 ξ76 tk⟩
def R6 (c : (((((((Addr × Heap) × Nat) × (LAO × Heap)) × ((Nat × Addr) × (Heap × Addr))) × ((((Heap × Obj) × LAO) × (Addr × Addr)) × ((Heap × Nat) × (LAO × Heap)))) × (((((Nat × Autos) × (Int → Bool × Int)) × (Addr × Heap)) × ((Nat × LAO) × ((List Turn) × Addr))) × ((((Addr × (List Addr)) × (List Addr)) × (Tok × Nat)) × ((Nat × Str) × (Heap × Heap))))) × ((((((Heap × Heap) × Nat) × (Addr × Addr)) × ((Addr × Addr) × (Addr × Heap))) × ((((Nat × LAO) × Tok) × (Tok × Tok)) × ((Tok × Tok) × (Tok × Tok)))) × (((((Tok × Tok) × Tok) × (Tok × Tok)) × ((Tok × Tok) × (Tok × Tok))) × (((Tok × Tok) × (Tok × Tok)) × ((Tok × Tok) × (Heap × Nat))))))) := fun clx nm ed tb er au cuts R47 ts tad kad nd1 nd2 ec sc ds tu pl nl R50 => G6.1 clx c.1.1.1.1.1.1.2 c.1.1.1.1.1.2 c.1.1.1.1.2.1 c.1.1.1.1.2.2 c.1.1.1.2.1.1 nm c.1.1.1.2.2.1 ed c.1.1.2.1.1.1.1 c.1.1.2.1.1.1.2 c.1.1.2.1.1.2 tb er c.1.1.2.2.1.1 c.1.1.2.2.1.2 c.1.1.2.2.2.1 c.1.1.2.2.2.2 c.1.2.1.1.1.1.1 au cuts c.1.2.1.1.2.1 c.1.2.1.1.2.2 c.1.2.1.2.1.1 R47 ts c.1.2.1.2.2.2 c.1.2.2.1.1.1.1 tad kad c.1.2.2.1.2.1 nd1 nd2 ec c.1.2.2.2.2.1 c.1.2.2.2.2.2 c.2.1.1.1.1.1.1 c.2.1.1.1.1.1.2 c.2.1.1.1.1.2 sc ds tu pl nl c.2.1.1.2.2.2 c.2.1.2.1.1.1.1 R50 c.2.1.2.1.1.2 c.2.1.2.1.2.1 c.2.1.2.1.2.2 c.2.1.2.2.1.1 c.2.1.2.2.1.2 c.2.1.2.2.2.1 c.2.1.2.2.2.2 c.2.2.1.1.1.1.1 c.2.2.1.1.1.1.2 c.2.2.1.1.1.2 c.2.2.1.1.2.1 c.2.2.1.1.2.2 c.2.2.1.2.1.1 c.2.2.1.2.1.2 c.2.2.1.2.2.1 c.2.2.1.2.2.2 c.2.2.2.1.1.1 c.2.2.2.1.1.2 c.2.2.2.1.2.1 c.2.2.2.1.2.2 c.2.2.2.2.1.1 c.2.2.2.2.1.2 c.2.2.2.2.2.1 c.2.2.2.2.2.2
def P6 (c : (((((((Addr × Heap) × Nat) × (LAO × Heap)) × ((Nat × Addr) × (Heap × Addr))) × ((((Heap × Obj) × LAO) × (Addr × Addr)) × ((Heap × Nat) × (LAO × Heap)))) × (((((Nat × Autos) × (Int → Bool × Int)) × (Addr × Heap)) × ((Nat × LAO) × ((List Turn) × Addr))) × ((((Addr × (List Addr)) × (List Addr)) × (Tok × Nat)) × ((Nat × Str) × (Heap × Heap))))) × ((((((Heap × Heap) × Nat) × (Addr × Addr)) × ((Addr × Addr) × (Addr × Heap))) × ((((Nat × LAO) × Tok) × (Tok × Tok)) × ((Tok × Tok) × (Tok × Tok)))) × (((((Tok × Tok) × Tok) × (Tok × Tok)) × ((Tok × Tok) × (Tok × Tok))) × (((Tok × Tok) × (Tok × Tok)) × ((Tok × Tok) × (Heap × Nat))))))) : Prop := R6 c c.1.1.1.1.1.1.1 c.1.1.1.2.1.2 c.1.1.1.2.2.2 c.1.1.2.1.2.1 c.1.1.2.1.2.2 c.1.2.1.1.1.1.2 c.1.2.1.1.1.2 c.1.2.1.2.1.2 c.1.2.1.2.2.1 c.1.2.2.1.1.1.2 c.1.2.2.1.1.2 c.1.2.2.1.2.2 c.1.2.2.2.1.1 c.1.2.2.2.1.2 c.2.1.1.1.2.1 c.2.1.1.1.2.2 c.2.1.1.2.1.1 c.2.1.1.2.1.2 c.2.1.1.2.2.1 c.2.1.2.1.1.1.2
@[irreducible] def z6 : (((((((Addr × Heap) × Nat) × (LAO × Heap)) × ((Nat × Addr) × (Heap × Addr))) × ((((Heap × Obj) × LAO) × (Addr × Addr)) × ((Heap × Nat) × (LAO × Heap)))) × (((((Nat × Autos) × (Int → Bool × Int)) × (Addr × Heap)) × ((Nat × LAO) × ((List Turn) × Addr))) × ((((Addr × (List Addr)) × (List Addr)) × (Tok × Nat)) × ((Nat × Str) × (Heap × Heap))))) × ((((((Heap × Heap) × Nat) × (Addr × Addr)) × ((Addr × Addr) × (Addr × Heap))) × ((((Nat × LAO) × Tok) × (Tok × Tok)) × ((Tok × Tok) × (Tok × Tok)))) × (((((Tok × Tok) × Tok) × (Tok × Tok)) × ((Tok × Tok) × (Tok × Tok))) × (((Tok × Tok) × (Tok × Tok)) × ((Tok × Tok) × (Heap × Nat)))))) := ep P6 (by walk_at "ne")
@[irreducible] def clx := z6.1.1.1.1.1.1.1
@[irreducible] def nm := z6.1.1.1.2.1.2
@[irreducible] def ed := z6.1.1.1.2.2.2
@[irreducible] def tb := z6.1.1.2.1.2.1
@[irreducible] def er := z6.1.1.2.1.2.2
@[irreducible] def au := z6.1.2.1.1.1.1.2
@[irreducible] def cuts := z6.1.2.1.1.1.2
@[irreducible] def R47 := z6.1.2.1.2.1.2
@[irreducible] def ts := z6.1.2.1.2.2.1
@[irreducible] def tad := z6.1.2.2.1.1.1.2
@[irreducible] def kad := z6.1.2.2.1.1.2
@[irreducible] def nd1 := z6.1.2.2.1.2.2
@[irreducible] def nd2 := z6.1.2.2.2.1.1
@[irreducible] def ec := z6.1.2.2.2.1.2
@[irreducible] def sc := z6.2.1.1.1.2.1
@[irreducible] def ds := z6.2.1.1.1.2.2
@[irreducible] def tu := z6.2.1.1.2.1.1
@[irreducible] def pl := z6.2.1.1.2.1.2
@[irreducible] def nl := z6.2.1.1.2.2.1
@[irreducible] def R50 := z6.2.1.2.1.1.1.2
def G7 : {P : Addr → Heap → Nat → LAO → Nat → Nat → (List Addr) → (List Addr) → Nat → Bool → Tok → Tok → Tok → Tok → Tok → Tok → Tok → Tok → Tok → Tok → Tok → Tok → Tok → Tok → Tok → Tok → Tok → Tok → Tok → Tok → Tok → Tok → LAO → Heap → LAO → Addr → Heap → Nat → LAO → (List Addr) → Addr → Tok → Tok → Nat → Addr → Heap → Nat → Addr → Heap → Addr → Heap → Addr → Heap → Heap → (List Value) → LAO → Addr → Heap → Nat → LAO → Prop // (∀ tl h60 tk60 ro60 n60 nr60 ta as60 began60 kept60 q1 q2 q3 q4 q5 q6 q7 q8 q9 q10 q11 q12 q13 q14 q15 z1 z2 z3 z4 z5 z6 z7 R60 ξ91 ξ92 D64 h64 tk64 R64 qs zf tz1 tz2 nF D70 h70 tk D78 ξ95 D79 ξ97 D80 h80 g' ys nw D82 h82 tk82 R83, P tl h60 tk60 ro60 n60 nr60 ta as60 began60 kept60 q1 q2 q3 q4 q5 q6 q7 q8 q9 q10 q11 q12 q13 q14 q15 z1 z2 z3 z4 z5 z6 z7 R60 ξ91 ξ92 D64 h64 tk64 R64 qs zf tz1 tz2 nF D70 h70 tk D78 ξ95 D79 ξ97 D80 h80 g' ys nw D82 h82 tk82 R83) → R6 z6 clx nm ed tb er au cuts R47 ts tad kad nd1 nd2 ec sc ds tu pl nl R50} := ⟨_, by
  intro hh ξ1 ξ2 hg KX T K0 e4 e3 e2 e1 e0 ξ23 S ξ12 ξ13 P2 CO0 CO1 dm0 dm1 dA dC dn0 dn1 hcc hys hc8 dT ξ19 dS ξ24 ξ25 ξ22 ξ39 ξ40 ξ41 ξ53 ξ54 ξ55 qk ek ξ56 hbig ξ64 F44 ξ68 OX0 OX1 TB47 EN47 CL47 RL47 GV47 HE47 mT47 hts DT3 DT5 DT2 DT4 hec DT1' of51 of52 ne5 sb50 hsc50 hnl50 K5 RR5 ST5 ξ77 ξ78
  refine fillK (w := aWorld 0) ?_; k_fill; intro _ _
  k_dflt (refine toks_ok (k := 0) (e := ⟨sc, ds, ⟨nm, pl, tu, tb, nl⟩, ⟨clx, nm, he, D25, gv, ed, er⟩, au, cuts, cs, more⟩) (Sit.lessM S (by decide)) (by k_asm) (by k_asm) of51 of52 ne5 RR5 K5 ST5 ?_)
  intro tl h60 tk60 ro60 o60 n60 nr60 ta as60 F60 N60 _ _ _ _ _ sb60 ST60 hta60 TK60
  obtain ⟨began60, ec60, kept60, SO60, _, _, _, hec60, _⟩ := ST60
  (try dsimp only at N60 SO60 hta60 TK60 hec60)
  have hall : allT ⟨sc, ds, ⟨nm, pl, tu, tb, nl⟩, ⟨clx, nm, he, D25, gv, ed, er⟩, au, cuts, cs, more⟩ = ts := hts
  rw [hall] at hta60 TK60 hec60 SO60
  rw [hec] at hec60
  subst hec60
  obtain ⟨q1, q2, q3, q4, q5, q6, q7, q8, q9, q10, q11, q12, q13, q14, q15, z1, z2, z3, z4, z5, z6, z7, rfl⟩ := SO60
  obtain ⟨R60, hR⟩ : ∃ R60, R60 = (tl, W.listOf (as60.map Value.ref).toArray nr60) :: (ds, dictOf [en w (Str.ofString "text") q1 (.str (textOf cs) z1), en w (Str.ofString "names") q2 (.ref nm), en w (Str.ofString "has_default") q3 (.bool true), en w (Str.ofString "most") q4 (.int 2000 z2),
    en w (Str.ofString "at") q5 (.int cs.length z3), en w (Str.ofString "began") q6 (.int began60 z4), en w (Str.ofString "condition") q7 (.int 0 z5), en w (Str.ofString "pile") q8 (.ref pl), en w (Str.ofString "echoed") q9 (.str ec z6), en w (Str.ofString "count") q10 (.int ((ts.length : Nat) : Int) z7), en w (Str.ofString "turns") q11 (.ref tu),
    en w (Str.ofString "is_kept") q12 (.bool kept60), en w (Str.ofString "is_ended") q13 (.bool false), en w (Str.ofString "tables") q14 (.ref tb), en w (Str.ofString "numbers") q15 (.ref nl)] 15) :: (tu, W.listOf (ta.map Value.ref).toArray n60) :: ro60 := ⟨_, rfl⟩
  have N61 : News T.heap s₁.heap.objs.size h60 R60 := by rw [hR]; exact N60
  k_sweep
  have sb61 : Sub ro60 R60 := by rw [hR]; exact (Sub.refl _).cons.cons.cons
  have mtl : (tl, W.listOf (as60.map Value.ref).toArray nr60) ∈ R60 := by rw [hR]; exact .head _
  have mds : (ds, dictOf [en w (Str.ofString "text") q1 (.str (textOf cs) z1), en w (Str.ofString "names") q2 (.ref nm), en w (Str.ofString "has_default") q3 (.bool true), en w (Str.ofString "most") q4 (.int 2000 z2),
    en w (Str.ofString "at") q5 (.int cs.length z3), en w (Str.ofString "began") q6 (.int began60 z4), en w (Str.ofString "condition") q7 (.int 0 z5), en w (Str.ofString "pile") q8 (.ref pl), en w (Str.ofString "echoed") q9 (.str ec z6), en w (Str.ofString "count") q10 (.int ((ts.length : Nat) : Int) z7), en w (Str.ofString "turns") q11 (.ref tu),
    en w (Str.ofString "is_kept") q12 (.bool kept60), en w (Str.ofString "is_ended") q13 (.bool false), en w (Str.ofString "tables") q14 (.ref tb), en w (Str.ofString "numbers") q15 (.ref nl)] 15) ∈ R60 := by rw [hR]; exact .tail _ (.head _)
  have mtu : (tu, W.listOf (ta.map Value.ref).toArray n60) ∈ R60 := by rw [hR]; exact .tail _ (.tail _ (.head _))
  have sbX : Sub R50 R60 := sb60.trans sb61
  have msc : (sc, instObj 476 ds) ∈ R60 := sbX _ hsc50
  have TA : Each (TurnAt R60) ta ts := hta60.imp fun _ _ ⟨a1, a2, a3, x⟩ => ⟨a1, a2, a3, x.sub sb61⟩
  have TK := (TK60.sub sb61).pairs
  have sbY : Sub R47 R60 := sb50.trans sbX
  have TB60 := TB47.sub sbY
  have EN60 := EN47.sub sbY
  have CL60 : ClassesAt w R60 clx := CL47.sub sbY
  have RL60 := RL47.sub sbY
  have GV60 := GV47.sub sbY
  have HE60 := HE47.sub sbY
  have mT60 := sbY _ mT47
  have mTD := sbY _ DT2
  have TD : Each (TurnAt R60) tad ts := DT3.imp fun _ _ ⟨a1, a2, a3, x⟩ => ⟨a1, a2, a3, x.sub sbY⟩
  have mKD := sbY _ DT4
  have KD : Each (TokAt R60) kad (tokensD cs ts) := DT5.imp fun _ _ ⟨a1, a2, x⟩ => ⟨a1, a2, x.sub sbY⟩
  have htl : ts.length ≤ 8 := by rw [← hts]; exact Nat.le_trans due_len hc8
  have hkl := tokens_len (cs := cs) (ts := ts)
  have hal := TK.length
  have hpl : (pairsT (tokensD cs ts)).length = (tokensD cs ts).length + 1 := by simp [pairsT]
  clear hR N60 sb61 sbX sbY sb60 sb50 hta60 TK60 TB47 EN47 CL47 RL47 GV47 HE47 mT47 DT1' DT2 DT3 DT4 DT5 RR5 ST5 K5 hnl50 hsc50 hall of51 of52 ne5
  refine CompAny.list rfl (by k_asm) N61 (vs := as60.map Value.ref) mtl (by rw [List.length_map]; lia) ?_
  intro g'
  refine compRest_ind (foundJ R60 (pairsT (tokensD cs ts))) ⟨[], rfl, Sub.refl _, .nil⟩ ?turnE ?finE
  case' turnE =>
    intro i ys nw v I oI C oC9 D m₂ h tk2 E' hi HJ hv hC hx2 F N off ne
    obtain ⟨ai, p, rfl, hpi, dx, j1, j2, j3, j4, y1, y2, v1, v2, ny, TO1, TO2⟩ := TK.at2 hv
    have sbJ : Sub R60 nw := let ⟨_, _, b, _⟩ := HJ; b
    have TO1' := sbJ _ TO1
    have TO2' := sbJ _ TO2
    have mtl' := sbJ _ mtl
    obtain ⟨pk, pt⟩ := p
    (try dsimp only at TO2')
    (try dsimp only)
    (try k_unmd)
    k_fold
    w_strict k_steps
    rename_i X62 h62 F62 N62 l62
    exact LCg.CompEnd.intro F62 N62 ((X62, ({ cls := .type "tuple", data := .seq #[.str pk y1, .str pt y2] } : Obj)) :: nw) (by walk_at "sublist") ⟨⟨Nat.ne_of_gt l62.1, Nat.ne_of_gt l62.2.1, Nat.ne_of_gt l62.2.2.1⟩, off⟩ (.inr ⟨_, .tail _ mtl', rfl, _, rfl⟩) (HJ.snoc (Sub.refl _).cons hpi ⟨y1, y2, .head _⟩)
  case' finE =>
    intro ys nw HJ
    obtain ⟨ps, rfl, sbJ, EF⟩ := HJ
    rw [List.length_map, hal, List.take_length] at EF
    intro D64 h64 tk64 F64 N64 off64
    (try dsimp only)
    have hpl2 := EF.length
    have hp9 : ps.length ≤ 9 := by lia
    obtain ⟨R64, hR⟩ : ∃ R64, R64 = (D64, W.listOf (ps.map Value.ref).toArray (ps.map Value.ref).length) :: nw := ⟨_, rfl⟩
    have N65 : News T.heap s₁.heap.objs.size h64 R64 := by rw [hR]; exact N64
    have sbX : Sub R60 R64 := by rw [hR]; exact sbJ.cons
    have mF : (D64, W.listOf (ps.map Value.ref).toArray (ps.map Value.ref).length) ∈ R64 := by rw [hR]; exact .head _
    have FE : Each (FoundAt R64) ps (pairsT (tokensD cs ts)) := by rw [hR]; exact EF.imp fun _ _ ⟨t1, t2, x⟩ => ⟨t1, t2, x.sub (Sub.refl _).cons⟩
    have mds64 := sbX _ mds
    have mtu64 := sbX _ mtu
    have msc64 := sbX _ msc
    have TB64 := TB60.sub sbX
    have EN64 := EN60.sub sbX
    have CL64 : ClassesAt w R64 clx := CL60.sub sbX
    have RL64 := RL60.sub sbX
    have GV64 := GV60.sub sbX
    have HE64 := HE60.sub sbX
    have mT64 := sbX _ mT60
    have mTD64 := sbX _ mTD
    have mKD64 := sbX _ mKD
    have TA64 : Each (TurnAt R64) ta ts := TA.imp fun _ _ ⟨a1, a2, a3, x⟩ => ⟨a1, a2, a3, x.sub sbX⟩
    have TD64 : Each (TurnAt R64) tad ts := TD.imp fun _ _ ⟨a1, a2, a3, x⟩ => ⟨a1, a2, a3, x.sub sbX⟩
    have KD64 : Each (TokAt R64) kad (tokensD cs ts) := KD.imp fun _ _ ⟨a1, a2, x⟩ => ⟨a1, a2, x.sub sbX⟩
    clear hR sbX sbJ EF off64 N64 mds mtu msc TB60 EN60 CL60 RL60 GV60 HE60 mT60 mTD mKD TA TD KD mtl TK
    (try k_unmd)
    (try dsimp only)
    w_strict k_steps
    unfold Hold
    obtain ⟨qs, zf, rfl, QS, tz1, tz2, TZ⟩ := found_split FE
    have TZ' : (zf, ({ cls := .type "tuple", data := .seq #[.str (Str.ofString "$end") tz1, .str (Str.ofString "") tz2] } : Obj)) ∈ R64 := TZ
    have hq8 : (qs.map Value.ref).length ≤ 8 := by rw [List.length_map, QS.length]; lia
    generalize (List.map Value.ref (qs ++ [zf])).length = nF at mF
    simp only [List.map_append, List.map_cons, List.map_nil] at mF
    clear TZ FE hpl2 hp9 hal hpl
    k_dflt (refine ne_same (d := .list (ts.map turnD)) (reads_L (by k_asm) ⟨n60, mtu64⟩ (reads_turns N65 TA64)) (reads_L (by k_asm) ⟨nd1, mTD64⟩ (reads_turns N65 TD64)) (shaped_turns ts) (by ke_room) ?_)
    (try dsimp only)
    w_strict k_steps
    rename_i D70 h70 F70 N70 l70
    have hlen : (textOf cs).length = cs.length := by simp [textOf, Str.length]
    have htd := TD64.length
    have hee : (ec != ec) = false := by simp
    unfold Hold
    k_dflt (refine ne_same (d := .list ((tokensD cs ts).map tokD)) (reads_L N70 ⟨0, .head _⟩ (reads_toks N70 (QS.imp fun _ _ ⟨a1, a2, x⟩ => ⟨a1, a2, x.sub (Sub.refl _).cons⟩))) (reads_L N70 ⟨nd2, .tail _ mKD64⟩ (reads_toks N70 (KD64.imp fun _ _ ⟨a1, a2, x⟩ => ⟨a1, a2, x.sub (Sub.refl _).cons⟩))) (shaped_toks _ (ok_tokens cs ts)) (by ke_room) ?_)
    (try dsimp only)
    w_strict k_steps
    all_goals try (
      have h9 : ((cs.length : Nat) : Int) ≠ (textOf cs).length := by assumption
      exact absurd (by rw [hlen]) h9)
    unfold Hold
    rename_i D78 _ _ D79 _ _ D80 h80 F80 N80 l80
    obtain ⟨R80, N81, mP, _, mZ, _, sb80⟩ := news_pack4 N80
    have htz : TurnAt R80 D78 ⟨0, 0, 0, 0⟩ := ⟨_, _, _, mZ⟩
    have TD80 : Each (TurnAt R80) (D78 :: tad) (⟨0, 0, 0, 0⟩ :: ts) := .cons htz (TD64.imp fun _ _ ⟨a1, a2, a3, x⟩ => ⟨a1, a2, a3, x.sub sb80⟩)
    have mTD80 := sb80 _ mTD64
    have mT80 := sb80 _ mT64
    have TB80 := TB64.sub sb80
    have EN80 := EN64.sub sb80
    have CL80 : ClassesAt w R80 clx := CL64.sub sb80
    have RL80 := RL64.sub sb80
    have GV80 := GV64.sub sb80
    have HE80 := HE64.sub sb80
    clear TD64 KD64 QS mTD64 mKD64 mT64 TB64 EN64 CL64 RL64 GV64 HE64 mF TZ' mds64 mtu64 msc64 TA64 sb80 N80 l80 l70 hq8 hkl
    refine CompAny.list rfl (by k_asm) N81 (vs := (D78 :: tad).map Value.ref) mP (by rw [List.length_map, List.length_cons]; lia) ?_
    intro g'
    refine compRest_ind (colJ R80 (fun t => (t.stop : Int)) (⟨0, 0, 0, 0⟩ :: ts)) ⟨rfl, .nil⟩ ?turnG ?finG
    case' turnG =>
      intro i ys nw v I oI C oC9 D m₂ h tk2 E' hi HJ hv hC hx2 F N off ne
      obtain ⟨ai, t, rfl, hti, t1, t2, t3, hT⟩ := TD80.at2 hv
      obtain rfl := HJ.1
      have hT' : (ai, ({ cls := .type "tuple", data := .seq #[.int t.number t1, .int t.start t2, .int t.stop t3] } : Obj)) ∈ nw := hT
      (try dsimp only)
      (try k_unmd)
      k_fold
      w_strict k_steps
      exact LCg.CompEnd.intro F N nw (fun _ h => h) off (.inr ⟨_, mP, rfl, _, rfl⟩) (HJ.snoc hti)
    case' finG =>
      intro ys nw HJ
      have e80 : ((D78 :: tad).map Value.ref).length = ((⟨0, 0, 0, 0⟩ : Turn) :: ts).length := by rw [List.length_map, List.length_cons, List.length_cons, htd]
      rw [e80] at HJ
      obtain ⟨rfl, IA⟩ := HJ.len
      have hy9 := IA.length
      rw [List.length_map, List.length_cons] at hy9
      intro D82 h82 tk82 F82 N82 off82
      (try dsimp only)
      (try k_unmd)
      clear N81 F80 e80
      w_strict k_steps
      obtain ⟨R83, N83, mY, sb83⟩ := news_pack1 N82
      have TD83 : Each (TurnAt R83) tad ts := by
        cases TD80 with
        | cons _ t => exact t.imp fun _ _ ⟨a1, a2, a3, x⟩ => ⟨a1, a2, a3, x.sub sb83⟩
      have mTD83 := sb83 _ mTD80
      have mT83 := sb83 _ mT80
      have TB83 := TB80.sub sb83
      have EN83 := EN80.sub sb83
      have CL83 : ClassesAt w R83 clx := CL80.sub sb83
      have RL83 := RL80.sub sb83
      have GV83 := GV80.sub sb83
      have HE83 := HE80.sub sb83
      clear N82 TD80 mTD80 mT80 TB80 EN80 CL80 RL80 GV80 HE80 sb83 htz mZ HJ off82
      unfold Hold
      rename_i ξ79 ξ80 ξ81 ξ82 ξ83 ξ84 ξ85 ξ86 ξ87 ξ88 ξ89 ξ90 ξ91 ξ92 ξ93 ξ94 ξ95 ξ96 ξ97 ξ98 ξ99 ξ100
      clear ξ79 ξ80
      revert ξ1 ξ2 hg KX T K0 e4 e3 e2 e1 e0 ξ23 S ξ12 ξ13 P2 CO0 CO1 dm0 dm1 dA dC dn0 dn1 hcc hys hc8 dT ξ19 dS ξ24 ξ25 ξ22 ξ39 ξ40 ξ41 ξ53 ξ54 ξ55 qk ek ξ56 hbig ξ64 F44 ξ68 OX0 OX1 hts hec ξ81 ξ82 ξ83 ξ84 ξ85 ξ86 ξ87 ξ88 ξ89 ξ90 htl hlen htd hee ξ93 ξ94 ξ96 ξ98 IA mP ξ99 ξ100 hy9 F82 N83 mY TD83 mTD83 mT83 TB83 EN83 CL83 RL83 GV83 HE83
      exact hh tl h60 tk60 ro60 n60 nr60 ta as60 began60 kept60 q1 q2 q3 q4 q5 q6 q7 q8 q9 q10 q11 q12 q13 q14 q15 z1 z2 z3 z4 z5 z6 z7 R60 ξ91 ξ92 D64 h64 tk64 R64 qs zf tz1 tz2 nF D70 h70 tk D78 ξ95 D79 ξ97 D80 h80 g' ys nw D82 h82 tk82 R83⟩
def R7 (c : ((((((Addr × Heap) × (Nat × LAO)) × ((Nat × Nat) × ((List Addr) × (List Addr)))) × (((Nat × Bool) × (Tok × Tok)) × ((Tok × Tok) × Tok))) × ((((Tok × Tok) × (Tok × Tok)) × ((Tok × Tok) × (Tok × Tok))) × (((Tok × Tok) × (Tok × Tok)) × ((Tok × Tok) × Tok)))) × (((((Tok × Tok) × (LAO × Heap)) × ((LAO × Addr) × (Heap × Nat))) × (((LAO × (List Addr)) × (Addr × Tok)) × ((Tok × Nat) × Addr))) × ((((Heap × Nat) × (Addr × Heap)) × ((Addr × Heap) × (Addr × Heap))) × (((Heap × (List Value)) × (LAO × Addr)) × ((Heap × Nat) × LAO)))))) := fun ta R83 => G7.1 c.1.1.1.1.1.1 c.1.1.1.1.1.2 c.1.1.1.1.2.1 c.1.1.1.1.2.2 c.1.1.1.2.1.1 c.1.1.1.2.1.2 ta c.1.1.1.2.2.2 c.1.1.2.1.1.1 c.1.1.2.1.1.2 c.1.1.2.1.2.1 c.1.1.2.1.2.2 c.1.1.2.2.1.1 c.1.1.2.2.1.2 c.1.1.2.2.2 c.1.2.1.1.1.1 c.1.2.1.1.1.2 c.1.2.1.1.2.1 c.1.2.1.1.2.2 c.1.2.1.2.1.1 c.1.2.1.2.1.2 c.1.2.1.2.2.1 c.1.2.1.2.2.2 c.1.2.2.1.1.1 c.1.2.2.1.1.2 c.1.2.2.1.2.1 c.1.2.2.1.2.2 c.1.2.2.2.1.1 c.1.2.2.2.1.2 c.1.2.2.2.2 c.2.1.1.1.1.1 c.2.1.1.1.1.2 c.2.1.1.1.2.1 c.2.1.1.1.2.2 c.2.1.1.2.1.1 c.2.1.1.2.1.2 c.2.1.1.2.2.1 c.2.1.1.2.2.2 c.2.1.2.1.1.1 c.2.1.2.1.1.2 c.2.1.2.1.2.1 c.2.1.2.1.2.2 c.2.1.2.2.1.1 c.2.1.2.2.1.2 c.2.1.2.2.2 c.2.2.1.1.1.1 c.2.2.1.1.1.2 c.2.2.1.1.2.1 c.2.2.1.1.2.2 c.2.2.1.2.1.1 c.2.2.1.2.1.2 c.2.2.1.2.2.1 c.2.2.1.2.2.2 c.2.2.2.1.1.1 c.2.2.2.1.1.2 c.2.2.2.1.2.1 c.2.2.2.1.2.2 c.2.2.2.2.1.1 c.2.2.2.2.1.2 R83
def P7 (c : ((((((Addr × Heap) × (Nat × LAO)) × ((Nat × Nat) × ((List Addr) × (List Addr)))) × (((Nat × Bool) × (Tok × Tok)) × ((Tok × Tok) × Tok))) × ((((Tok × Tok) × (Tok × Tok)) × ((Tok × Tok) × (Tok × Tok))) × (((Tok × Tok) × (Tok × Tok)) × ((Tok × Tok) × Tok)))) × (((((Tok × Tok) × (LAO × Heap)) × ((LAO × Addr) × (Heap × Nat))) × (((LAO × (List Addr)) × (Addr × Tok)) × ((Tok × Nat) × Addr))) × ((((Heap × Nat) × (Addr × Heap)) × ((Addr × Heap) × (Addr × Heap))) × (((Heap × (List Value)) × (LAO × Addr)) × ((Heap × Nat) × LAO)))))) : Prop := R7 c c.1.1.1.2.2.1 c.2.2.2.2.2
@[irreducible] def z7 : ((((((Addr × Heap) × (Nat × LAO)) × ((Nat × Nat) × ((List Addr) × (List Addr)))) × (((Nat × Bool) × (Tok × Tok)) × ((Tok × Tok) × Tok))) × ((((Tok × Tok) × (Tok × Tok)) × ((Tok × Tok) × (Tok × Tok))) × (((Tok × Tok) × (Tok × Tok)) × ((Tok × Tok) × Tok)))) × (((((Tok × Tok) × (LAO × Heap)) × ((LAO × Addr) × (Heap × Nat))) × (((LAO × (List Addr)) × (Addr × Tok)) × ((Tok × Nat) × Addr))) × ((((Heap × Nat) × (Addr × Heap)) × ((Addr × Heap) × (Addr × Heap))) × (((Heap × (List Value)) × (LAO × Addr)) × ((Heap × Nat) × LAO))))) := ep P7 (by walk_at "ne")
@[irreducible] def ta := z7.1.1.1.2.2.1
@[irreducible] def R83 := z7.2.2.2.2.2
theorem m7 : R7 z7 ta R83 := by
  intro ξ1 ξ2 hg KX T K0 e4 e3 e2 e1 e0 ξ23 S ξ12 ξ13 P2 CO0 CO1 dm0 dm1 dA dC dn0 dn1 hcc hys hc8 dT ξ19 dS ξ24 ξ25 ξ22 ξ39 ξ40 ξ41 ξ53 ξ54 ξ55 qk ek ξ56 hbig ξ64 F44 ξ68 OX0 OX1 hts hec ξ81 ξ82 ξ83 ξ84 ξ85 ξ86 ξ87 ξ88 ξ89 ξ90 htl hlen htd hee ξ93 ξ94 ξ96 ξ98 IA mP ξ99 ξ100 hy9 F82 N83 mY TD83 mTD83 mT83 TB83 EN83 CL83 RL83 GV83 HE83
  refine fillK (w := aWorld 0) ?_; k_fill; intro _ _
  refine CompAny.list rfl (by k_asm) N83 (vs := tad.map Value.ref) mTD83 (by rw [List.length_map]; lia) ?_
  intro g'
  refine compRest_ind (colJ R83 (fun t => (t.start : Int)) ts) ⟨rfl, .nil⟩ ?turn2G ?fin2G
  case' turn2G =>
    intro i zs nw v I oI C oC9 D m₂ h tk2 E' hi HJ hv hC hx2 F N off ne
    obtain ⟨ai, t, rfl, hti, t1, t2, t3, hT⟩ := TD83.at2 hv
    obtain rfl := HJ.1
    have hT' : (ai, ({ cls := .type "tuple", data := .seq #[.int t.number t1, .int t.start t2, .int t.stop t3] } : Obj)) ∈ R83 := hT
    (try dsimp only)
    (try k_unmd)
    k_fold
    w_strict k_steps
    exact LCg.CompEnd.intro F N R83 (fun _ h => h) off (.inr ⟨_, mTD83, rfl, _, rfl⟩) (HJ.snoc hti)
  case' fin2G =>
    intro zs nw HJ
    rw [List.length_map, htd] at HJ
    obtain ⟨rfl, IB⟩ := HJ.len
    have hz8 := IB.length
    rw [List.length_map] at hz8
    intro D84 h84 tk84 F84 N84 off84
    (try dsimp only)
    have lt84 : ∀ p ∈ R83, p.1 ≠ D84 := off1_mem' off84
    (try k_unmd)
    clear N83 HJ off84
    w_strict k_steps
    rename_i _ _ _ D86 h86 F86 N86 l86
    have ch : ((⟨0, 0, 0, 0⟩ : Turn) :: ts).map (fun t => (t.stop : Int)) = ts.map (fun t => (t.start : Int)) ++ [((textOf cs).length : Int)] := by
      have := due_chain (more := more) (cuts := cuts) (cs := cs) (a := au) OX0 OX1 (n := cs.length) (pos := 0) (first := 0) (Nat.zero_le _) (by lia)
      rw [hts] at this
      rw [hlen]
      exact this
    unfold Hold
    k_dflt (refine ne_ints_same (PySem.IsL.isList (n := _) (N86 _ (.tail _ (.tail _ (.tail _ mY)))).1) (PySem.IsL.isList (n := 0) (N86 _ (.head _)).1) IA (IB.append (.cons _ _ .nil)) ch (by ke_room) ?_)
    w_strict k_steps
    unfold Hold
    obtain ⟨R88, N88, sb88⟩ : ∃ R, News T.heap s₁.heap.objs.size h86 R ∧ Sub R83 R := ⟨_, N86, (Sub.refl _).cons.cons.cons⟩
    have TB88 := TB83.sub sb88
    have EN88 := EN83.sub sb88
    have CL88 : ClassesAt w R88 clx := CL83.sub sb88
    have RL88 := RL83.sub sb88
    have GV88 := GV83.sub sb88
    have HE88 := HE83.sub sb88
    have mTD88 := sb88 _ mTD83
    have mT88 := sb88 _ mT83
    have TD88 : Each (TurnAt R88) tad ts := TD83.imp fun _ _ ⟨a1, a2, a3, x⟩ => ⟨a1, a2, a3, x.sub sb88⟩
    clear N86 l86 TB83 EN83 CL83 RL83 GV83 HE83 mTD83 mT83 TD83 sb88 IA IB mY ch
    k_dflt (refine trace_ok (k := 0) (ta := ⟨clx, nm, he, D25, gv, ed, er⟩) (au := au) (cuts := cuts) (more := more) (Sit.lessM S (by decide)) (by k_asm) N88 TB88 CL88 HE88 GV88 RL88 EN88 OX0 OX1 hc8 hcc ?_)
    intro tr tl2 ln h90 tk90 R90 vl F90 N90 sb90 TR LN VL
    rw [hts] at VL
    have mTD90 := sb90 _ mTD88
    have mT90 := sb90 _ mT88
    have TD90 : Each (TurnAt R90) tad ts := TD88.imp fun _ _ ⟨a1, a2, a3, x⟩ => ⟨a1, a2, a3, x.sub sb90⟩
    have TR' : (tr, ({ cls := .type "tuple", data := .seq #[.ref tl2, .ref ln] } : Obj)) ∈ R90 := TR
    obtain ⟨nln, mLN⟩ := LN
    clear TB88 EN88 CL88 RL88 GV88 HE88 mTD88 mT88 TD88 sb90 TR
    k_sweep
    w_strict k_steps
    unfold Hold
    refine CompAny.list rfl (by k_asm) N90 (vs := tad.map Value.ref) mTD90 (by rw [List.length_map]; lia) ?_
    intro g'
    refine compRest_ind (linJ2 R90 cs ts) ⟨rfl, .nil⟩ ?turnH ?finH
    case' turnH =>
      intro i zs nw v I oI C oC9 D m₂ h tk2 E' hi HJ hv hC hx2 F N off ne
      obtain ⟨ai, t, rfl, hti, t1, t2, t3, hT⟩ := TD90.at2 hv
      obtain rfl := HJ.1
      have htb := due_in (more := more) (cuts := cuts) (cs := cs) (a := au) OX0 OX1 (n := cs.length) (pos := 0) (first := 0) t (by rw [hts]; exact List.mem_of_getElem? hti)
      (try dsimp only)
      (try k_unmd)
      k_fold
      w_strict k_steps
      unfold Hold
      k_dflt (refine line_ok (k := 0) (Sit.lessM S (by decide)) (by k_asm) (by k_asm) (number := t.number) (b := (t.start : Int)) (e := (t.stop : Int)) (.tail _ (.tail _ (.tail _ hT))) htb.1 (by lia) (by lia) (by lia) (by lia) ?_)
      intro t93 h93 tk93 F93 N93
      k_sweep
      w_strict k_steps
      exact LCg.CompEnd.intro F93 N93 nw (fun _ h => h) off (.inr ⟨_, mTD90, rfl, _, rfl⟩) (HJ.snoc hti)
    case' finH =>
      intro zs nw HJ
      rw [List.length_map, htd] at HJ
      obtain ⟨rfl, IL⟩ := HJ.len
      have hz8 := PyProof.Rows.StrsAre.length IL
      rw [List.length_map] at hz8
      intro D94 h94 tk94 F94 N94 off94
      (try dsimp only)
      have lt94 : ∀ p ∈ nw, p.1 ≠ D94 := off1_mem' off94
      (try k_unmd)
      clear N90 HJ off94
      w_strict k_steps
      rename_i _ _ _ D96 h96 F96 N96 l96
      unfold Hold
      k_dflt (refine eq_same (d := .list ((ts.map (lineT cs) ++ [Str.ofString "--EOF"]).map PyData.str)) (reads_L N96 ⟨nln, .tail _ (.tail _ (.tail _ mLN))⟩ (PyProof.Rows.StrsAre.reads _ VL)) (reads_L N96 ⟨0, .head _⟩ (PyProof.Rows.StrsAre.reads _ (kct_snoc IL))) (shaped_strs _ (ok_lines cs ts)) (by ke_room) ?_)
      w_strict k_steps
      all_goals (
        refine goodW_bool F96 hg (raisesW_false ?_) ?_
        · wrow_none_raised
        · wrow_post)
theorem m6 : R6 z6 clx nm ed tb er au cuts R47 ts tad kad nd1 nd2 ec sc ds tu pl nl R50 := G7.2 (fun tl h60 tk60 ro60 n60 nr60 ta as60 began60 kept60 q1 q2 q3 q4 q5 q6 q7 q8 q9 q10 q11 q12 q13 q14 q15 z1 z2 z3 z4 z5 z6 z7 R60 ξ91 ξ92 D64 h64 tk64 R64 qs zf tz1 tz2 nF D70 h70 tk D78 ξ95 D79 ξ97 D80 h80 g' ys nw D82 h82 tk82 R83 => @ep_go _ P7 _ _ (by with_unfolding_all exact m7) ((((((tl, h60), (tk60, ro60)), ((n60, nr60), (ta, as60))), (((began60, kept60), (q1, q2)), ((q3, q4), q5))), ((((q6, q7), (q8, q9)), ((q10, q11), (q12, q13))), (((q14, q15), (z1, z2)), ((z3, z4), z5)))), (((((z6, z7), (R60, ξ91)), ((ξ92, D64), (h64, tk64))), (((R64, qs), (zf, tz1)), ((tz2, nF), D70))), ((((h70, tk), (D78, ξ95)), ((D79, ξ97), (D80, h80))), (((g', ys), (nw, D82)), ((h82, tk82), R83))))) (by kernel_rfl))
theorem m5 : R5 z5 he nw gv R39 := G6.2 (fun clx h43 tk43 R43 ξ65 ξ66 nm ξ67 ed h44 oe R44 tb er h46 tk46 R46 ξ69 ξ70 au cuts du h47 tk47 R47 ts tud kkd tad kad tde nd1 nd2 ec ξ71 ξ72 ξ73 ξ74 ξ75 sc ds tu pl nl h50 tk50 R50 k1 k2 k3 k4 k5 k6 k7 k8 k9' k10 k11 k12 k13 k14 k15' u1 u2 u3 u4 u5 u6 u7 ξ76 tk => @ep_go _ P6 _ _ (by with_unfolding_all exact m6) (((((((clx, h43), tk43), (R43, ξ65)), ((ξ66, nm), (ξ67, ed))), ((((h44, oe), R44), (tb, er)), ((h46, tk46), (R46, ξ69)))), (((((ξ70, au), cuts), (du, h47)), ((tk47, R47), (ts, tud))), ((((kkd, tad), kad), (tde, nd1)), ((nd2, ec), (ξ71, ξ72))))), ((((((ξ73, ξ74), ξ75), (sc, ds)), ((tu, pl), (nl, h50))), ((((tk50, R50), k1), (k2, k3)), ((k4, k5), (k6, k7)))), (((((k8, k9'), k10), (k11, k12)), ((k13, k14), (k15', u1))), (((u2, u3), (u4, u5)), ((u6, u7), (ξ76, tk)))))) (by kernel_rfl))
theorem m4 : R4 z4 D25 R25 Ra0 Ta0 Ra1 Ta1 f0 f1 q1 := G5.2 (fun he h33 tk33 R33 nlc ξ59 ξ60 Dt h34 R34 tc0 uc0 tc1 uc1 g' ys nw kvs D38 h38 tk38 gv h39 tk39 R39 ξ61 tk xa h40 tk40 nwA xb h41 tk41 nwB l42 h42 => @ep_go _ P5 _ _ (by with_unfolding_all exact m5) ((((((he, h33), tk33), (R33, nlc)), (((ξ59, ξ60), Dt), (h34, R34))), ((((tc0, uc0), tc1), (uc1, g')), ((ys, nw), (kvs, D38)))), (((((h38, tk38), gv), (h39, tk39)), ((R39, ξ61), (tk, xa))), ((((h40, tk40), nwA), (xb, h41)), ((tk41, nwB), (l42, h42))))) (by kernel_rfl))
theorem m3 : R3 z3 ys cs R more x0 D15 x1 D18 Dt R20 g' I oI C oC9 D m₂ h E' := G4.2 (fun r0 ξ28 ξ29 h22 tk22 R21 ξ30 ξ31 ξ32 ξ33 ξ34 ξ35 ξ36 ξ37 ξ38 D23 h23 r1 ξ42 ξ43 h24 tk24 R22 D25 h25 tk25 R25 nla Ra0 Ta0 Ra1 Ta1 Dt h27 R27 g' ξ44 ξ45 ξ46 ξ47 ξ48 ξ49 ξ50 ξ51 ξ52 f0 d0 q0 h28 tk28 X0 h29 R29 I oI C oC9 D m₂ h tk2 E' f1 d1 q1 h30 tk30 X1 h31 R31 D32 h32 tk32 => @ep_go _ P4 _ _ (by with_unfolding_all exact m4) (((((((r0, ξ28), ξ29), (h22, tk22)), (((R21, ξ30), ξ31), (ξ32, ξ33))), ((((ξ34, ξ35), ξ36), (ξ37, ξ38)), ((D23, h23), (r1, ξ42)))), (((((ξ43, h24), tk24), (R22, D25)), ((h25, tk25), (R25, nla))), ((((Ra0, Ta0), Ra1), (Ta1, Dt)), ((h27, R27), (g', ξ44))))), ((((((ξ45, ξ46), ξ47), (ξ48, ξ49)), ((ξ50, ξ51), (ξ52, f0))), ((((d0, q0), h28), (tk28, X0)), ((h29, R29), (I, oI)))), (((((C, oC9), D), (m₂, h)), ((tk2, E'), (f1, d1))), ((((q1, h30), tk30), (X1, h31)), ((R31, D32), (h32, tk32)))))) (by kernel_rfl))
theorem m2 : R2 z2 pen tk2 oP a0 rows0 tags0 a1 rows1 tags1 la c0 h5 tk5 bh0 n0 c1 ro6 bh1 n1 lc dm DT oA oC tk p9 h9 := G3.2 (fun ξ16 ys px cs D5 h5 tk5 R more t9 k9 h12 oT ξ17 x0 h13 tk13 ro13 R14 D15 h15 t15 k15 x1 h16 tk16 ro16 R17 D18 ξ18 Dst ξ20 ξ21 oS tk Dt h18 R20 nst g' I oI C oC9 D m₂ h tk2 E' D21 h21 => @ep_go _ P3 _ _ (by with_unfolding_all exact m3) ((((((ξ16, ys), (px, cs)), ((D5, h5), tk5)), (((R, more), t9), ((k9, h12), oT))), ((((ξ17, x0), (h13, tk13)), ((ro13, R14), D15)), (((h15, t15), k15), ((x1, h16), tk16)))), (((((ro16, R17), (D18, ξ18)), ((Dst, ξ20), ξ21)), (((oS, tk), Dt), ((h18, R20), nst))), ((((g', I), oI), ((C, oC9), D)), (((m₂, h), tk2), ((E', D21), h21))))) (by kernel_rfl))
theorem m1 : R1 z1 s₁ o vs o4 o3 w := G2.2 (fun pen op h2 tk2 ξ5 oP ξ6 a0 h3 tk3 p3 ro3 rows0 tags0 a1 h4 tk4 p4 ro4 rows1 tags1 la h4' c0 h5 tk5 p5 ro5 bh0 n0 c1 h6 tk6 p6 ro6 bh1 n1 lc h6' p7 dm td h7 tk7 DT ξ7 ξ8 ξ9 oA ξ10 oC ξ11 tk p9 tdn h9 tk9 nn h10 tk10 t10 u10 v10 => @ep_go _ P2 _ _ (by with_unfolding_all exact m2) ((((((pen, op), (h2, tk2)), ((ξ5, oP), (ξ6, a0))), (((h3, tk3), (p3, ro3)), ((rows0, tags0), (a1, h4)))), ((((tk4, p4), (ro4, rows1)), ((tags1, la), (h4', c0))), (((h5, tk5), (p5, ro5)), ((bh0, n0), (c1, h6))))), (((((tk6, p6), (ro6, bh1)), ((n1, lc), (h6', p7))), (((dm, td), (h7, tk7)), ((DT, ξ7), (ξ8, ξ9)))), ((((oA, ξ10), (oC, ξ11)), ((tk, p9), (tdn, h9))), (((tk9, nn), (h10, tk10)), ((t10, u10), v10))))) (by kernel_rfl))
end main
end
theorem main : main.St := main.G1.2 (fun s₀ s₁ fa o pm doc w1 w2 w3 w4 ns w5 w6 w7 vs w8 tk₁ o4 o3 o2 o1 o0 w mg mb h₁ => @ep_go _ main.P1 _ _ (by with_unfolding_all exact main.m1) ((⟨default, [], default, default, {}, {}, 0, {}, 0, w, 0, 0, none, [], {}, {}, [], default, mg, mb, {}, 0, h₁, 0⟩ : Cx), (((((s₀, s₁), fa), ((o, pm), doc)), (((w1, w2), w3), (w4, ns))), ((((w5, w6), w7), ((vs, w8), tk₁)), (((o4, o3), o2), (o1, o0))))) (by kernel_rfl))
end Mine
theorem PySem.Challenge.cw_qd0070_01_holds : PySem.Challenge.rw_qd0070_01.Holds :=
  Mine.main
