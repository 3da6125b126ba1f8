import PyProof.Rows.All
import Wide.All
import OpenK.AllK
import Wide.FinOn
import Lean
import PySem.Challenge.RW_tk0063_01
open PySem PySem.W PyProof.Rows
set_option Elab.async false
set_option linter.all false
set_option linter.unusedVariables false
set_option maxRecDepth 100000
set_option maxHeartbeats 8000000
-- Hf
open PySem PySem.W PyProof.Rows
namespace Mine
noncomputable def dB (x : String) (k : Nat) : String × Nat × Value := (x, k, .builtin x)
noncomputable def dO (P : Params) (l : List (String × Nat × Value)) : Array DictEntry := (l.map fun e => { hash := PyData.keyHash P (Str.ofString e.1), key := .str (Str.ofString e.1) e.2.1, val := e.2.2 }).toArray
noncomputable def bents (P : Params) : Array DictEntry := dO P [("__name__", 1, Value.str (Str.ofString "builtins") 160), ("__doc__", 2, Value.builtin "builtins.__doc__:str#opaque"), ("__package__", 3, Value.builtin "builtins.__package__:str#opaque"), ("__loader__", 4, Value.builtin "builtins.__loader__:shared#opaque"), ("__spec__", 5, Value.builtin "builtins.__spec__#opaque"), dB "__build_class__" 6, dB "__import__" 7, dB "abs" 8, dB "all" 9, dB "any" 10, dB "ascii" 11, dB "bin" 12, dB "breakpoint" 13, dB "callable" 14, dB "chr" 15, dB "compile" 16, dB "delattr" 17, dB "dir" 18, dB "divmod" 19, dB "eval" 20, dB "exec" 21, dB "format" 22, dB "getattr" 23, dB "globals" 24, dB "hasattr" 25, dB "hash" 26, dB "hex" 27, dB "id" 28, dB "input" 29, dB "isinstance" 30, dB "issubclass" 31, dB "iter" 32, dB "aiter" 33, dB "len" 34, dB "locals" 35, dB "max" 36, dB "min" 37, dB "next" 38, dB "anext" 39, dB "oct" 40, dB "ord" 41, dB "pow" 42, dB "print" 43, dB "repr" 44, dB "round" 45, dB "setattr" 46, dB "sorted" 47, dB "sum" 48, dB "vars" 49, ("None", 50, .none), ("Ellipsis", 51, Value.ellipsis), ("NotImplemented", 52, Value.notImplemented), ("False", 53, Value.bool Bool.false), ("True", 54, Value.bool Bool.true), ("bool", 55, Value.type "bool"), ("memoryview", 56, Value.type "memoryview"), ("bytearray", 57, Value.type "bytearray"), ("bytes", 58, Value.type "bytes"), ("classmethod", 59, Value.type "classmethod"), ("complex", 60, Value.type "complex"), ("dict", 61, Value.type "dict"), ("enumerate", 62, Value.type "enumerate"), ("filter", 63, Value.type "filter"), ("float", 64, Value.type "float"), ("frozenset", 65, Value.type "frozenset"), ("property", 66, Value.type "property"), ("int", 67, Value.type "int"), ("list", 68, Value.type "list"), ("map", 69, Value.type "map"), ("object", 70, Value.type "object"), ("range", 71, Value.type "range"), ("reversed", 72, Value.type "reversed"), ("set", 73, Value.type "set"), ("slice", 74, Value.type "slice"), ("staticmethod", 75, Value.type "staticmethod"), ("str", 76, Value.type "str"), ("super", 77, Value.type "super"), ("tuple", 78, Value.type "tuple"), ("type", 79, Value.type "type"), ("zip", 80, Value.type "zip"), ("__debug__", 81, Value.bool Bool.true), ("BaseException", 82, Value.type "BaseException"), ("BaseExceptionGroup", 83, Value.type "BaseExceptionGroup"), ("Exception", 84, Value.type "Exception"), ("GeneratorExit", 85, Value.type "GeneratorExit"), ("KeyboardInterrupt", 86, Value.type "KeyboardInterrupt"), ("SystemExit", 87, Value.type "SystemExit"), ("ArithmeticError", 88, Value.type "ArithmeticError"), ("AssertionError", 89, Value.type "AssertionError"), ("AttributeError", 90, Value.type "AttributeError"), ("BufferError", 91, Value.type "BufferError"), ("EOFError", 92, Value.type "EOFError"), ("ImportError", 93, Value.type "ImportError"), ("LookupError", 94, Value.type "LookupError"), ("MemoryError", 95, Value.type "MemoryError"), ("NameError", 96, Value.type "NameError"), ("OSError", 97, Value.type "OSError"), ("ReferenceError", 98, Value.type "ReferenceError"), ("RuntimeError", 99, Value.type "RuntimeError"), ("StopAsyncIteration", 100, Value.type "StopAsyncIteration"), ("StopIteration", 101, Value.type "StopIteration"), ("SyntaxError", 102, Value.type "SyntaxError"), ("SystemError", 103, Value.type "SystemError"), ("TypeError", 104, Value.type "TypeError"), ("ValueError", 105, Value.type "ValueError"), ("Warning", 106, Value.type "Warning"), ("FloatingPointError", 107, Value.type "FloatingPointError"), ("OverflowError", 108, Value.type "OverflowError"), ("ZeroDivisionError", 109, Value.type "ZeroDivisionError"), ("BytesWarning", 110, Value.type "BytesWarning"), ("DeprecationWarning", 111, Value.type "DeprecationWarning"), ("EncodingWarning", 112, Value.type "EncodingWarning"), ("FutureWarning", 113, Value.type "FutureWarning"), ("ImportWarning", 114, Value.type "ImportWarning"), ("PendingDeprecationWarning", 115, Value.type "PendingDeprecationWarning"), ("ResourceWarning", 116, Value.type "ResourceWarning"), ("RuntimeWarning", 117, Value.type "RuntimeWarning"), ("SyntaxWarning", 118, Value.type "SyntaxWarning"), ("UnicodeWarning", 119, Value.type "UnicodeWarning"), ("UserWarning", 120, Value.type "UserWarning"), ("BlockingIOError", 121, Value.type "BlockingIOError"), ("ChildProcessError", 122, Value.type "ChildProcessError"), ("ConnectionError", 123, Value.type "ConnectionError"), ("FileExistsError", 124, Value.type "FileExistsError"), ("FileNotFoundError", 125, Value.type "FileNotFoundError"), ("InterruptedError", 126, Value.type "InterruptedError"), ("IsADirectoryError", 127, Value.type "IsADirectoryError"), ("NotADirectoryError", 128, Value.type "NotADirectoryError"), ("PermissionError", 129, Value.type "PermissionError"), ("ProcessLookupError", 130, Value.type "ProcessLookupError"), ("TimeoutError", 131, Value.type "TimeoutError"), ("IndentationError", 132, Value.type "IndentationError"), ("_IncompleteInputError", 133, Value.type "_IncompleteInputError"), ("IndexError", 134, Value.type "IndexError"), ("KeyError", 135, Value.type "KeyError"), ("ModuleNotFoundError", 136, Value.type "ModuleNotFoundError"), ("NotImplementedError", 137, Value.type "NotImplementedError"), ("PythonFinalizationError", 138, Value.type "PythonFinalizationError"), ("RecursionError", 139, Value.type "RecursionError"), ("UnboundLocalError", 140, Value.type "UnboundLocalError"), ("UnicodeError", 141, Value.type "UnicodeError"), ("BrokenPipeError", 142, Value.type "BrokenPipeError"), ("ConnectionAbortedError", 143, Value.type "ConnectionAbortedError"), ("ConnectionRefusedError", 144, Value.type "ConnectionRefusedError"), ("ConnectionResetError", 145, Value.type "ConnectionResetError"), ("TabError", 146, Value.type "TabError"), ("UnicodeDecodeError", 147, Value.type "UnicodeDecodeError"), ("UnicodeEncodeError", 148, Value.type "UnicodeEncodeError"), ("UnicodeTranslateError", 149, Value.type "UnicodeTranslateError"), ("ExceptionGroup", 150, Value.type "ExceptionGroup"), ("EnvironmentError", 151, Value.type "OSError"), ("IOError", 152, Value.type "OSError"), dB "open" 153, ("quit", 154, Value.builtin "builtins.quit#opaque"), ("exit", 155, Value.builtin "builtins.exit#opaque"), ("copyright", 156, Value.builtin "builtins.copyright#opaque"), ("credits", 157, Value.builtin "builtins.credits#opaque"), ("license", 158, Value.builtin "builtins.license#opaque"), ("help", 159, Value.builtin "builtins.help#opaque")]

noncomputable def ments (P : Params) : Array DictEntry := dO P [("__name__", 165, Value.str (Str.ofString "law_tk0063_01") 412), ("__doc__", 166, .none), ("__package__", 167, .none), ("__loader__", 168, Value.builtin "__main__.__loader__#opaque"), ("__spec__", 169, .none), ("__annotations__", 170, Value.ref 6), ("__builtins__", 171, Value.ref 4), ("__file__", 173, Value.str (Str.ofString "/claim/cut.py") 172), ("__cached__", 174, .none), ("PerlError", 217, Value.ref 31), ("Die", 242, Value.ref 51), ("GREATEST_CODE", 250, Value.int 2147483647 249), ("row_of_ber", 258, Value.ref 60), ("read_ber", 267, Value.ref 67), ("row_of_code", 277, Value.ref 74), ("read_code", 289, Value.ref 81), ("row_of_bits", 300, Value.ref 88), ("bits_of_row", 312, Value.ref 95), ("nibble_of", 319, Value.ref 102), ("row_of_nibbles", 331, Value.ref 109), ("nibbles_of_row", 343, Value.ref 116), ("uu_sign", 350, Value.ref 123), ("uu_line", 362, Value.ref 130), ("row_of_uu", 373, Value.ref 137), ("is_uu", 381, Value.ref 144), ("uu_six", 389, Value.ref 151), ("read_uu_line", 401, Value.ref 158), ("read_uu", 411, Value.ref 165), ("_law_bounds", 419, Value.ref 172), ("_law_rest", 431, Value.ref 173), ("_law_crank", 440, Value.ref 180), ("_law_number", 449, Value.ref 187), ("_law_read_all", 460, Value.ref 194), ("_law_dies", 468, Value.ref 201), ("_law_codes_right", 474, Value.ref 206), ("_law_groups_right", 480, Value.ref 211), ("_law_lines_right", 486, Value.ref 216), ("law", 492, Value.ref 221)]
noncomputable def ko_0 (P : Params) : Obj := { cls := .type "dict", data := .dict (bents P) 159 }
noncomputable def ko_3 (P : Params) : Obj := { cls := .type "dict", data := .dict (ments P) 38 }
noncomputable def ko_1 (P : Params) : Obj := Obj.mk (Value.type "dict") Option.none (Data.dict #[DictEntry.mk (PyData.keyHash P (Str.ofString "builtins")) (Value.str (Str.ofString "builtins") 162) (Value.ref 4), DictEntry.mk (PyData.keyHash P (Str.ofString "__main__")) (Value.str (Str.ofString "__main__") 163) (Value.ref 5)] 2) #[]
noncomputable def ko_2 (P : Params) : Obj := Obj.mk Value.none Option.none (Data.dict #[DictEntry.mk (PyData.keyHash P (Str.ofString "type.__subclasses__.Exception.0")) (Value.str (Str.ofString "type.__subclasses__.Exception.0") 214) (Value.int 31 0), DictEntry.mk (PyData.keyHash P (Str.ofString "type.__subclasses__.Exception.n")) (Value.str (Str.ofString "type.__subclasses__.Exception.n") 215) (Value.int 1 0)] 2) #[]
noncomputable def ko_4 (P : Params) : Obj := Obj.mk (Value.type "module") (Option.some 0) Data.plain #[]
noncomputable def ko_5 (P : Params) : Obj := Obj.mk (Value.type "module") (Option.some 3) Data.plain #[]
noncomputable def ko_6 (P : Params) : Obj := Obj.mk (Value.type "dict") Option.none (Data.dict #[] 0) #[]
noncomputable def ko_7 (P : Params) : Obj := Obj.mk (Value.type "tuple") Option.none (Data.seq #[] 0) #[]
noncomputable def ko_8 (P : Params) : Obj := Obj.mk Value.none Option.none (Data.fields #[]) #[]
noncomputable def ko_9 (P : Params) : Obj := Obj.mk (Value.type "code") Option.none (Data.fields #[Value.str (Str.ofString "<module>") 176, Value.str (Str.ofString "<module>") 177, Value.str (Str.ofString "/claim/cut.py") 178, Value.int 1 0, Value.int 0 0, Value.int 0 0, Value.int 0 0, Value.int 0 0, Value.ref 7, Value.bool Bool.false, Value.int 175 0, Value.ref 8, Value.none, Value.none, Value.none, Value.none, Value.int 179 0, Value.int 1 0, Value.str (Str.ofString "/claim/cut.py") 180]) #[]
noncomputable def ko_10 (P : Params) : Obj := Obj.mk (Value.type "frame") Option.none Data.plain #[Option.some (Value.ref 9), Option.some (Value.ref 3), Option.some (Value.ref 3), Option.none, Option.some (Value.str (Str.ofString "__main__") 164), Option.none, Option.some (Value.ref 0)]
noncomputable def ko_11 (P : Params) : Obj := Obj.mk (Value.type "tuple") Option.none (Data.seq #[] 0) #[]
noncomputable def ko_12 (P : Params) : Obj := Obj.mk Value.none Option.none (Data.fields #[Value.int 2 0, Value.int 0 0, Value.ref 20, Value.int 7 0, Value.int 0 0, Value.ref 40, Value.int 14 0, Value.int 0 0, Value.ref 59, Value.int 24 0, Value.int 0 0, Value.ref 66, Value.int 32 0, Value.int 0 0, Value.ref 73, Value.int 47 0, Value.int 0 0, Value.ref 80, Value.int 64 0, Value.int 0 0, Value.ref 87, Value.int 70 0, Value.int 0 0, Value.ref 94, Value.int 76 0, Value.int 0 0, Value.ref 101, Value.int 80 0, Value.int 0 0, Value.ref 108, Value.int 86 0, Value.int 0 0, Value.ref 115, Value.int 92 0, Value.int 0 0, Value.ref 122, Value.int 94 0, Value.int 0 0, Value.ref 129, Value.int 103 0, Value.int 0 0, Value.ref 136, Value.int 109 0, Value.int 0 0, Value.ref 143, Value.int 111 0, Value.int 0 0, Value.ref 150, Value.int 113 0, Value.int 0 0, Value.ref 157, Value.int 130 0, Value.int 0 0, Value.ref 164, Value.int 137 0, Value.int 0 0, Value.ref 171, Value.int 140 0, Value.int 0 0, Value.ref 179, Value.int 144 0, Value.int 0 0, Value.ref 186, Value.int 147 0, Value.int 0 0, Value.ref 193, Value.int 153 0, Value.int 0 0, Value.ref 200, Value.int 159 0, Value.int 0 0, Value.ref 205, Value.int 177 0, Value.int 0 0, Value.ref 210, Value.int 192 0, Value.int 0 0, Value.ref 215, Value.int 200 0, Value.int 0 0, Value.ref 220]) #[]
noncomputable def ko_13 (P : Params) : Obj := Obj.mk (Value.type "code") Option.none (Data.fields #[Value.str (Str.ofString "<module>") 182, Value.str (Str.ofString "<module>") 183, Value.str (Str.ofString "/claim/cut.py") 184, Value.int 1 0, Value.int 0 0, Value.int 0 0, Value.int 0 0, Value.int 0 0, Value.ref 11, Value.bool Bool.false, Value.int 181 0, Value.ref 12, Value.none, Value.none, Value.none, Value.none, Value.int 185 0, Value.int 1 0, Value.str (Str.ofString "/claim/cut.py") 186]) #[]
noncomputable def ko_14 (P : Params) : Obj := Obj.mk (Value.type "frame") Option.none Data.plain #[Option.some (Value.ref 13), Option.some (Value.ref 3), Option.some (Value.ref 3), Option.none, Option.some (Value.str (Str.ofString "__main__") 164), Option.none, Option.some (Value.ref 0)]
noncomputable def ko_15 (P : Params) : Obj := Obj.mk (Value.type "tuple") Option.none (Data.seq #[Value.type "Exception"] 0) #[]
noncomputable def ko_22 (P : Params) : Obj := Obj.mk (Value.type "tuple") Option.none (Data.seq #[] 0) #[]
noncomputable def ko_23 (P : Params) : Obj := Obj.mk Value.none Option.none (Data.fields #[]) #[]
noncomputable def ko_24 (P : Params) : Obj := Obj.mk (Value.type "tuple") Option.none (Data.seq #[Value.str (Str.ofString "self") 204, Value.str (Str.ofString "text") 205] 0) #[]
noncomputable def ko_25 (P : Params) : Obj := Obj.mk (Value.type "tuple") Option.none (Data.seq #[] 0) #[]
noncomputable def ko_26 (P : Params) : Obj := (fun x0 x1 x2 x3 x4 x5 x6 x7 x8 x9 xr c0 c1 c2 c4 c5 c6 c7 c8 c9 c10 cr (_ : PySem.Challenge.pw_tk0063_01.main.body.drop 1 = Stmt.ClassDef c0 c1 c2 (Stmt.FunctionDef x0 x1 x2 x3 x4 x5 x6 x7 x8 x9 :: xr) c4 c5 c6 c7 c8 c9 c10 :: cr) => Obj.mk Value.none Option.none (Data.func (FuncData.mk x8 (Str.ofString "PerlError.__init__") x1 (FuncBody.stmts x2) x6 0 [] Value.none Value.none Value.none Value.none Option.none Value.none Value.none 0)) #[]) _ _ _ _ _ _ _ _ _ _ _ _ _ _ _ _ _ _ _ _ _ _ rfl
noncomputable def ko_27 (P : Params) : Obj := Obj.mk (Value.type "code") Option.none (Data.fields #[Value.str (Str.ofString "__init__") 201, Value.str (Str.ofString "PerlError.__init__") 202, Value.str (Str.ofString "/claim/cut.py") 203, Value.int 4 0, Value.int 2 0, Value.int 0 0, Value.int 0 0, Value.int 3 0, Value.ref 22, Value.bool Bool.true, Value.int 181 0, Value.ref 23, Value.none, Value.ref 24, Value.ref 25, Value.ref 26, Value.int 206 0, Value.int 4 0, Value.str (Str.ofString "/claim/cut.py") 207]) #[]
noncomputable def ko_28 (P : Params) : Obj := (fun x0 x1 x2 x3 x4 x5 x6 x7 x8 x9 xr c0 c1 c2 c4 c5 c6 c7 c8 c9 c10 cr (_ : PySem.Challenge.pw_tk0063_01.main.body.drop 1 = Stmt.ClassDef c0 c1 c2 (Stmt.FunctionDef x0 x1 x2 x3 x4 x5 x6 x7 x8 x9 :: xr) c4 c5 c6 c7 c8 c9 c10 :: cr) => Obj.mk (Value.type "function") Option.none (Data.func (FuncData.mk x8 (Str.ofString "PerlError.__init__") x1 (FuncBody.stmts x2) x6 3 [] Value.none Value.none Value.none (Value.str (Str.ofString "perlcore.errors") 187) Option.none (Value.ref 27) Value.none 0)) #[]) _ _ _ _ _ _ _ _ _ _ _ _ _ _ _ _ _ _ _ _ _ _ rfl
noncomputable def ko_29 (P : Params) : Obj := Obj.mk (Value.type "tuple") Option.none (Data.seq #[Value.str (Str.ofString "text") 209] 0) #[]
noncomputable def ko_30 (P : Params) : Obj := Obj.mk (Value.type "dict") Option.none (Data.dict #[DictEntry.mk (PyData.keyHash P (Str.ofString "__module__")) (Value.str (Str.ofString "__module__") 196) (Value.str (Str.ofString "perlcore.errors") 187), DictEntry.mk (PyData.keyHash P (Str.ofString "__firstlineno__")) (Value.str (Str.ofString "__firstlineno__") 200) (Value.int 2 199), DictEntry.mk (PyData.keyHash P (Str.ofString "__init__")) (Value.str (Str.ofString "__init__") 208) (Value.ref 28), DictEntry.mk (PyData.keyHash P (Str.ofString "__static_attributes__")) (Value.str (Str.ofString "__static_attributes__") 210) (Value.ref 29), DictEntry.mk (PyData.keyHash P (Str.ofString "__weakref__")) (Value.str (Str.ofString "__weakref__") 212) (Value.ref 32), DictEntry.mk (PyData.keyHash P (Str.ofString "__doc__")) (Value.str (Str.ofString "__doc__") 213) Value.none] 3) #[]
noncomputable def ko_31 (P : Params) : Obj := Obj.mk (Value.type "type") Option.none (Data.cls (ClassData.mk (Str.ofString "PerlError") [Value.type "Exception"] [Value.ref 31, Value.type "Exception", Value.type "BaseException", Value.type "object"] 30 (Str.ofString "PerlError") Bool.true [] [Value.ref 51] Bool.false Option.none Bool.false)) #[Option.some (Value.ref 15), Option.none, Option.some (Value.str (Str.ofString "PerlError") 189), Option.some (Value.str (Str.ofString "PerlError") 197), Option.some (Value.builtin "Exception.__new__"), Option.some (Value.bool Bool.true)]
noncomputable def ko_32 (P : Params) : Obj := Obj.mk (Value.type "getset_descriptor") Option.none (Data.fields #[Value.str (Str.ofString "__weakref__") 211, Value.ref 31, Value.builtin "ExceptionGroup.__weakref__", Value.none]) #[]
noncomputable def ko_35 (P : Params) : Obj := Obj.mk (Value.type "tuple") Option.none (Data.seq #[Value.ref 31] 0) #[]
noncomputable def ko_42 (P : Params) : Obj := Obj.mk (Value.type "tuple") Option.none (Data.seq #[] 0) #[]
noncomputable def ko_43 (P : Params) : Obj := Obj.mk Value.none Option.none (Data.fields #[]) #[]
noncomputable def ko_44 (P : Params) : Obj := Obj.mk (Value.type "tuple") Option.none (Data.seq #[Value.str (Str.ofString "self") 233, Value.str (Str.ofString "value") 234] 0) #[]
noncomputable def ko_45 (P : Params) : Obj := Obj.mk (Value.type "tuple") Option.none (Data.seq #[] 0) #[]
noncomputable def ko_46 (P : Params) : Obj := (fun x0 x1 x2 x3 x4 x5 x6 x7 x8 x9 xr c0 c1 c2 c4 c5 c6 c7 c8 c9 c10 cr (_ : PySem.Challenge.pw_tk0063_01.main.body.drop 2 = Stmt.ClassDef c0 c1 c2 (Stmt.FunctionDef x0 x1 x2 x3 x4 x5 x6 x7 x8 x9 :: xr) c4 c5 c6 c7 c8 c9 c10 :: cr) => Obj.mk Value.none Option.none (Data.func (FuncData.mk x8 (Str.ofString "Die.__init__") x1 (FuncBody.stmts x2) x6 0 [] Value.none Value.none Value.none Value.none Option.none Value.none Value.none 0)) #[]) _ _ _ _ _ _ _ _ _ _ _ _ _ _ _ _ _ _ _ _ _ _ rfl
noncomputable def ko_47 (P : Params) : Obj := Obj.mk (Value.type "code") Option.none (Data.fields #[Value.str (Str.ofString "__init__") 230, Value.str (Str.ofString "Die.__init__") 231, Value.str (Str.ofString "/claim/cut.py") 232, Value.int 9 0, Value.int 2 0, Value.int 0 0, Value.int 0 0, Value.int 3 0, Value.ref 42, Value.bool Bool.true, Value.int 181 0, Value.ref 43, Value.none, Value.ref 44, Value.ref 45, Value.ref 46, Value.int 235 0, Value.int 9 0, Value.str (Str.ofString "/claim/cut.py") 236]) #[]
noncomputable def ko_48 (P : Params) : Obj := (fun x0 x1 x2 x3 x4 x5 x6 x7 x8 x9 xr c0 c1 c2 c4 c5 c6 c7 c8 c9 c10 cr (_ : PySem.Challenge.pw_tk0063_01.main.body.drop 2 = Stmt.ClassDef c0 c1 c2 (Stmt.FunctionDef x0 x1 x2 x3 x4 x5 x6 x7 x8 x9 :: xr) c4 c5 c6 c7 c8 c9 c10 :: cr) => Obj.mk (Value.type "function") Option.none (Data.func (FuncData.mk x8 (Str.ofString "Die.__init__") x1 (FuncBody.stmts x2) x6 3 [] Value.none Value.none Value.none (Value.str (Str.ofString "perlcore.errors") 187) Option.none (Value.ref 47) Value.none 0)) #[]) _ _ _ _ _ _ _ _ _ _ _ _ _ _ _ _ _ _ _ _ _ _ rfl
noncomputable def ko_49 (P : Params) : Obj := Obj.mk (Value.type "tuple") Option.none (Data.seq #[Value.str (Str.ofString "value") 238] 0) #[]
noncomputable def ko_50 (P : Params) : Obj := Obj.mk (Value.type "dict") Option.none (Data.dict #[DictEntry.mk (PyData.keyHash P (Str.ofString "__module__")) (Value.str (Str.ofString "__module__") 225) (Value.str (Str.ofString "perlcore.errors") 187), DictEntry.mk (PyData.keyHash P (Str.ofString "__firstlineno__")) (Value.str (Str.ofString "__firstlineno__") 229) (Value.int 7 228), DictEntry.mk (PyData.keyHash P (Str.ofString "__init__")) (Value.str (Str.ofString "__init__") 237) (Value.ref 48), DictEntry.mk (PyData.keyHash P (Str.ofString "__static_attributes__")) (Value.str (Str.ofString "__static_attributes__") 239) (Value.ref 49), DictEntry.mk (PyData.keyHash P (Str.ofString "__doc__")) (Value.str (Str.ofString "__doc__") 240) Value.none] 2) #[]
noncomputable def ko_51 (P : Params) : Obj := Obj.mk (Value.type "type") Option.none (Data.cls (ClassData.mk (Str.ofString "Die") [Value.ref 31] [Value.ref 51, Value.ref 31, Value.type "Exception", Value.type "BaseException", Value.type "object"] 50 (Str.ofString "Die") Bool.true [] [] Bool.false Option.none Bool.false)) #[Option.some (Value.ref 35), Option.none, Option.some (Value.str (Str.ofString "Die") 218), Option.some (Value.str (Str.ofString "Die") 226), Option.some (Value.builtin "Exception.__new__"), Option.some (Value.bool Bool.true)]
noncomputable def ko_54 (P : Params) : Obj := Obj.mk (Value.type "tuple") Option.none (Data.seq #[] 0) #[]
noncomputable def ko_55 (P : Params) : Obj := Obj.mk Value.none Option.none (Data.fields #[]) #[]
noncomputable def ko_56 (P : Params) : Obj := Obj.mk (Value.type "tuple") Option.none (Data.seq #[Value.str (Str.ofString "n") 254, Value.str (Str.ofString "row") 255] 0) #[]
noncomputable def ko_57 (P : Params) : Obj := Obj.mk (Value.type "tuple") Option.none (Data.seq #[] 0) #[]
noncomputable def ko_58 (P : Params) : Obj := (fun x0 x1 x2 x3 x4 x5 x6 x7 x8 x9 xr (_ : PySem.Challenge.pw_tk0063_01.main.body.drop 5 = Stmt.FunctionDef x0 x1 x2 x3 x4 x5 x6 x7 x8 x9 :: xr) => Obj.mk Value.none Option.none (Data.func (FuncData.mk x8 x8 x1 (FuncBody.stmts x2) x6 0 [] Value.none Value.none Value.none Value.none Option.none Value.none Value.none 0)) #[]) _ _ _ _ _ _ _ _ _ _ _ rfl
noncomputable def ko_59 (P : Params) : Obj := Obj.mk (Value.type "code") Option.none (Data.fields #[Value.str (Str.ofString "row_of_ber") 251, Value.str (Str.ofString "row_of_ber") 252, Value.str (Str.ofString "/claim/cut.py") 253, Value.int 14 0, Value.int 1 0, Value.int 0 0, Value.int 0 0, Value.int 3 0, Value.ref 54, Value.bool Bool.true, Value.int 181 0, Value.ref 55, Value.none, Value.ref 56, Value.ref 57, Value.ref 58, Value.int 256 0, Value.int 14 0, Value.str (Str.ofString "/claim/cut.py") 257]) #[]
noncomputable def ko_60 (P : Params) : Obj := (fun x0 x1 x2 x3 x4 x5 x6 x7 x8 x9 xr (_ : PySem.Challenge.pw_tk0063_01.main.body.drop 5 = Stmt.FunctionDef x0 x1 x2 x3 x4 x5 x6 x7 x8 x9 :: xr) => Obj.mk (Value.type "function") Option.none (Data.func (FuncData.mk x8 x8 x1 (FuncBody.stmts x2) x6 3 [] Value.none Value.none Value.none (Value.str (Str.ofString "perlcore.packbits") 243) Option.none (Value.ref 59) Value.none 0)) #[]) _ _ _ _ _ _ _ _ _ _ _ rfl
noncomputable def ko_61 (P : Params) : Obj := Obj.mk (Value.type "tuple") Option.none (Data.seq #[] 0) #[]
noncomputable def ko_62 (P : Params) : Obj := Obj.mk Value.none Option.none (Data.fields #[]) #[]
noncomputable def ko_63 (P : Params) : Obj := Obj.mk (Value.type "tuple") Option.none (Data.seq #[Value.str (Str.ofString "data") 262, Value.str (Str.ofString "at") 263, Value.str (Str.ofString "found") 264] 0) #[]
noncomputable def ko_64 (P : Params) : Obj := Obj.mk (Value.type "tuple") Option.none (Data.seq #[] 0) #[]
noncomputable def ko_65 (P : Params) : Obj := (fun x0 x1 x2 x3 x4 x5 x6 x7 x8 x9 xr (_ : PySem.Challenge.pw_tk0063_01.main.body.drop 6 = Stmt.FunctionDef x0 x1 x2 x3 x4 x5 x6 x7 x8 x9 :: xr) => Obj.mk Value.none Option.none (Data.func (FuncData.mk x8 x8 x1 (FuncBody.stmts x2) x6 0 [] Value.none Value.none Value.none Value.none Option.none Value.none Value.none 0)) #[]) _ _ _ _ _ _ _ _ _ _ _ rfl
noncomputable def ko_66 (P : Params) : Obj := Obj.mk (Value.type "code") Option.none (Data.fields #[Value.str (Str.ofString "read_ber") 259, Value.str (Str.ofString "read_ber") 260, Value.str (Str.ofString "/claim/cut.py") 261, Value.int 24 0, Value.int 2 0, Value.int 0 0, Value.int 0 0, Value.int 3 0, Value.ref 61, Value.bool Bool.true, Value.int 181 0, Value.ref 62, Value.none, Value.ref 63, Value.ref 64, Value.ref 65, Value.int 265 0, Value.int 24 0, Value.str (Str.ofString "/claim/cut.py") 266]) #[]
noncomputable def ko_67 (P : Params) : Obj := (fun x0 x1 x2 x3 x4 x5 x6 x7 x8 x9 xr (_ : PySem.Challenge.pw_tk0063_01.main.body.drop 6 = Stmt.FunctionDef x0 x1 x2 x3 x4 x5 x6 x7 x8 x9 :: xr) => Obj.mk (Value.type "function") Option.none (Data.func (FuncData.mk x8 x8 x1 (FuncBody.stmts x2) x6 3 [] Value.none Value.none Value.none (Value.str (Str.ofString "perlcore.packbits") 243) Option.none (Value.ref 66) Value.none 0)) #[]) _ _ _ _ _ _ _ _ _ _ _ rfl
noncomputable def ko_68 (P : Params) : Obj := Obj.mk (Value.type "tuple") Option.none (Data.seq #[] 0) #[]
noncomputable def ko_69 (P : Params) : Obj := Obj.mk Value.none Option.none (Data.fields #[]) #[]
noncomputable def ko_70 (P : Params) : Obj := Obj.mk (Value.type "tuple") Option.none (Data.seq #[Value.str (Str.ofString "code") 271, Value.str (Str.ofString "row") 272, Value.str (Str.ofString "room") 273, Value.str (Str.ofString "size") 274] 0) #[]
noncomputable def ko_71 (P : Params) : Obj := Obj.mk (Value.type "tuple") Option.none (Data.seq #[] 0) #[]
noncomputable def ko_72 (P : Params) : Obj := (fun x0 x1 x2 x3 x4 x5 x6 x7 x8 x9 xr (_ : PySem.Challenge.pw_tk0063_01.main.body.drop 7 = Stmt.FunctionDef x0 x1 x2 x3 x4 x5 x6 x7 x8 x9 :: xr) => Obj.mk Value.none Option.none (Data.func (FuncData.mk x8 x8 x1 (FuncBody.stmts x2) x6 0 [] Value.none Value.none Value.none Value.none Option.none Value.none Value.none 0)) #[]) _ _ _ _ _ _ _ _ _ _ _ rfl
noncomputable def ko_73 (P : Params) : Obj := Obj.mk (Value.type "code") Option.none (Data.fields #[Value.str (Str.ofString "row_of_code") 268, Value.str (Str.ofString "row_of_code") 269, Value.str (Str.ofString "/claim/cut.py") 270, Value.int 32 0, Value.int 1 0, Value.int 0 0, Value.int 0 0, Value.int 3 0, Value.ref 68, Value.bool Bool.true, Value.int 181 0, Value.ref 69, Value.none, Value.ref 70, Value.ref 71, Value.ref 72, Value.int 275 0, Value.int 32 0, Value.str (Str.ofString "/claim/cut.py") 276]) #[]
noncomputable def ko_74 (P : Params) : Obj := (fun x0 x1 x2 x3 x4 x5 x6 x7 x8 x9 xr (_ : PySem.Challenge.pw_tk0063_01.main.body.drop 7 = Stmt.FunctionDef x0 x1 x2 x3 x4 x5 x6 x7 x8 x9 :: xr) => Obj.mk (Value.type "function") Option.none (Data.func (FuncData.mk x8 x8 x1 (FuncBody.stmts x2) x6 3 [] Value.none Value.none Value.none (Value.str (Str.ofString "perlcore.packbits") 243) Option.none (Value.ref 73) Value.none 0)) #[]) _ _ _ _ _ _ _ _ _ _ _ rfl
noncomputable def ko_75 (P : Params) : Obj := Obj.mk (Value.type "tuple") Option.none (Data.seq #[] 0) #[]
noncomputable def ko_76 (P : Params) : Obj := Obj.mk Value.none Option.none (Data.fields #[]) #[]
noncomputable def ko_77 (P : Params) : Obj := Obj.mk (Value.type "tuple") Option.none (Data.seq #[Value.str (Str.ofString "data") 281, Value.str (Str.ofString "at") 282, Value.str (Str.ofString "first") 283, Value.str (Str.ofString "size") 284, Value.str (Str.ofString "code") 285, Value.str (Str.ofString "octet") 286] 0) #[]
noncomputable def ko_78 (P : Params) : Obj := Obj.mk (Value.type "tuple") Option.none (Data.seq #[] 0) #[]
noncomputable def ko_79 (P : Params) : Obj := (fun x0 x1 x2 x3 x4 x5 x6 x7 x8 x9 xr (_ : PySem.Challenge.pw_tk0063_01.main.body.drop 8 = Stmt.FunctionDef x0 x1 x2 x3 x4 x5 x6 x7 x8 x9 :: xr) => Obj.mk Value.none Option.none (Data.func (FuncData.mk x8 x8 x1 (FuncBody.stmts x2) x6 0 [] Value.none Value.none Value.none Value.none Option.none Value.none Value.none 0)) #[]) _ _ _ _ _ _ _ _ _ _ _ rfl
noncomputable def ko_80 (P : Params) : Obj := Obj.mk (Value.type "code") Option.none (Data.fields #[Value.str (Str.ofString "read_code") 278, Value.str (Str.ofString "read_code") 279, Value.str (Str.ofString "/claim/cut.py") 280, Value.int 47 0, Value.int 2 0, Value.int 0 0, Value.int 0 0, Value.int 3 0, Value.ref 75, Value.bool Bool.true, Value.int 181 0, Value.ref 76, Value.none, Value.ref 77, Value.ref 78, Value.ref 79, Value.int 287 0, Value.int 47 0, Value.str (Str.ofString "/claim/cut.py") 288]) #[]
noncomputable def ko_81 (P : Params) : Obj := (fun x0 x1 x2 x3 x4 x5 x6 x7 x8 x9 xr (_ : PySem.Challenge.pw_tk0063_01.main.body.drop 8 = Stmt.FunctionDef x0 x1 x2 x3 x4 x5 x6 x7 x8 x9 :: xr) => Obj.mk (Value.type "function") Option.none (Data.func (FuncData.mk x8 x8 x1 (FuncBody.stmts x2) x6 3 [] Value.none Value.none Value.none (Value.str (Str.ofString "perlcore.packbits") 243) Option.none (Value.ref 80) Value.none 0)) #[]) _ _ _ _ _ _ _ _ _ _ _ rfl
noncomputable def ko_82 (P : Params) : Obj := Obj.mk (Value.type "tuple") Option.none (Data.seq #[] 0) #[]
noncomputable def ko_83 (P : Params) : Obj := Obj.mk Value.none Option.none (Data.fields #[]) #[]
noncomputable def ko_84 (P : Params) : Obj := Obj.mk (Value.type "tuple") Option.none (Data.seq #[Value.str (Str.ofString "codes") 293, Value.str (Str.ofString "count") 294, Value.str (Str.ofString "is_big") 295, Value.str (Str.ofString "row") 296, Value.str (Str.ofString "k") 297] 0) #[]
noncomputable def ko_85 (P : Params) : Obj := Obj.mk (Value.type "tuple") Option.none (Data.seq #[] 0) #[]
noncomputable def ko_86 (P : Params) : Obj := (fun x0 x1 x2 x3 x4 x5 x6 x7 x8 x9 xr (_ : PySem.Challenge.pw_tk0063_01.main.body.drop 9 = Stmt.FunctionDef x0 x1 x2 x3 x4 x5 x6 x7 x8 x9 :: xr) => Obj.mk Value.none Option.none (Data.func (FuncData.mk x8 x8 x1 (FuncBody.stmts x2) x6 0 [] Value.none Value.none Value.none Value.none Option.none Value.none Value.none 0)) #[]) _ _ _ _ _ _ _ _ _ _ _ rfl
noncomputable def ko_87 (P : Params) : Obj := Obj.mk (Value.type "code") Option.none (Data.fields #[Value.str (Str.ofString "row_of_bits") 290, Value.str (Str.ofString "row_of_bits") 291, Value.str (Str.ofString "/claim/cut.py") 292, Value.int 64 0, Value.int 3 0, Value.int 0 0, Value.int 0 0, Value.int 3 0, Value.ref 82, Value.bool Bool.true, Value.int 181 0, Value.ref 83, Value.none, Value.ref 84, Value.ref 85, Value.ref 86, Value.int 298 0, Value.int 64 0, Value.str (Str.ofString "/claim/cut.py") 299]) #[]
noncomputable def ko_88 (P : Params) : Obj := (fun x0 x1 x2 x3 x4 x5 x6 x7 x8 x9 xr (_ : PySem.Challenge.pw_tk0063_01.main.body.drop 9 = Stmt.FunctionDef x0 x1 x2 x3 x4 x5 x6 x7 x8 x9 :: xr) => Obj.mk (Value.type "function") Option.none (Data.func (FuncData.mk x8 x8 x1 (FuncBody.stmts x2) x6 3 [] Value.none Value.none Value.none (Value.str (Str.ofString "perlcore.packbits") 243) Option.none (Value.ref 87) Value.none 0)) #[]) _ _ _ _ _ _ _ _ _ _ _ rfl
noncomputable def ko_89 (P : Params) : Obj := Obj.mk (Value.type "tuple") Option.none (Data.seq #[] 0) #[]
noncomputable def ko_90 (P : Params) : Obj := Obj.mk Value.none Option.none (Data.fields #[]) #[]
noncomputable def ko_91 (P : Params) : Obj := Obj.mk (Value.type "tuple") Option.none (Data.seq #[Value.str (Str.ofString "row") 304, Value.str (Str.ofString "count") 305, Value.str (Str.ofString "is_big") 306, Value.str (Str.ofString "signs") 307, Value.str (Str.ofString "k") 308, Value.str (Str.ofString "bit") 309] 0) #[]
noncomputable def ko_92 (P : Params) : Obj := Obj.mk (Value.type "tuple") Option.none (Data.seq #[] 0) #[]
noncomputable def ko_93 (P : Params) : Obj := (fun x0 x1 x2 x3 x4 x5 x6 x7 x8 x9 xr (_ : PySem.Challenge.pw_tk0063_01.main.body.drop 10 = Stmt.FunctionDef x0 x1 x2 x3 x4 x5 x6 x7 x8 x9 :: xr) => Obj.mk Value.none Option.none (Data.func (FuncData.mk x8 x8 x1 (FuncBody.stmts x2) x6 0 [] Value.none Value.none Value.none Value.none Option.none Value.none Value.none 0)) #[]) _ _ _ _ _ _ _ _ _ _ _ rfl
noncomputable def ko_94 (P : Params) : Obj := Obj.mk (Value.type "code") Option.none (Data.fields #[Value.str (Str.ofString "bits_of_row") 301, Value.str (Str.ofString "bits_of_row") 302, Value.str (Str.ofString "/claim/cut.py") 303, Value.int 70 0, Value.int 3 0, Value.int 0 0, Value.int 0 0, Value.int 3 0, Value.ref 89, Value.bool Bool.true, Value.int 181 0, Value.ref 90, Value.none, Value.ref 91, Value.ref 92, Value.ref 93, Value.int 310 0, Value.int 70 0, Value.str (Str.ofString "/claim/cut.py") 311]) #[]
noncomputable def ko_95 (P : Params) : Obj := (fun x0 x1 x2 x3 x4 x5 x6 x7 x8 x9 xr (_ : PySem.Challenge.pw_tk0063_01.main.body.drop 10 = Stmt.FunctionDef x0 x1 x2 x3 x4 x5 x6 x7 x8 x9 :: xr) => Obj.mk (Value.type "function") Option.none (Data.func (FuncData.mk x8 x8 x1 (FuncBody.stmts x2) x6 3 [] Value.none Value.none Value.none (Value.str (Str.ofString "perlcore.packbits") 243) Option.none (Value.ref 94) Value.none 0)) #[]) _ _ _ _ _ _ _ _ _ _ _ rfl
noncomputable def ko_96 (P : Params) : Obj := Obj.mk (Value.type "tuple") Option.none (Data.seq #[] 0) #[]
noncomputable def ko_97 (P : Params) : Obj := Obj.mk Value.none Option.none (Data.fields #[]) #[]
noncomputable def ko_98 (P : Params) : Obj := Obj.mk (Value.type "tuple") Option.none (Data.seq #[Value.str (Str.ofString "code") 316] 0) #[]
noncomputable def ko_99 (P : Params) : Obj := Obj.mk (Value.type "tuple") Option.none (Data.seq #[] 0) #[]
noncomputable def ko_100 (P : Params) : Obj := (fun x0 x1 x2 x3 x4 x5 x6 x7 x8 x9 xr (_ : PySem.Challenge.pw_tk0063_01.main.body.drop 11 = Stmt.FunctionDef x0 x1 x2 x3 x4 x5 x6 x7 x8 x9 :: xr) => Obj.mk Value.none Option.none (Data.func (FuncData.mk x8 x8 x1 (FuncBody.stmts x2) x6 0 [] Value.none Value.none Value.none Value.none Option.none Value.none Value.none 0)) #[]) _ _ _ _ _ _ _ _ _ _ _ rfl
noncomputable def ko_101 (P : Params) : Obj := Obj.mk (Value.type "code") Option.none (Data.fields #[Value.str (Str.ofString "nibble_of") 313, Value.str (Str.ofString "nibble_of") 314, Value.str (Str.ofString "/claim/cut.py") 315, Value.int 76 0, Value.int 1 0, Value.int 0 0, Value.int 0 0, Value.int 3 0, Value.ref 96, Value.bool Bool.true, Value.int 181 0, Value.ref 97, Value.none, Value.ref 98, Value.ref 99, Value.ref 100, Value.int 317 0, Value.int 76 0, Value.str (Str.ofString "/claim/cut.py") 318]) #[]
noncomputable def ko_102 (P : Params) : Obj := (fun x0 x1 x2 x3 x4 x5 x6 x7 x8 x9 xr (_ : PySem.Challenge.pw_tk0063_01.main.body.drop 11 = Stmt.FunctionDef x0 x1 x2 x3 x4 x5 x6 x7 x8 x9 :: xr) => Obj.mk (Value.type "function") Option.none (Data.func (FuncData.mk x8 x8 x1 (FuncBody.stmts x2) x6 3 [] Value.none Value.none Value.none (Value.str (Str.ofString "perlcore.packbits") 243) Option.none (Value.ref 101) Value.none 0)) #[]) _ _ _ _ _ _ _ _ _ _ _ rfl
noncomputable def ko_103 (P : Params) : Obj := Obj.mk (Value.type "tuple") Option.none (Data.seq #[] 0) #[]
noncomputable def ko_104 (P : Params) : Obj := Obj.mk Value.none Option.none (Data.fields #[]) #[]
noncomputable def ko_105 (P : Params) : Obj := Obj.mk (Value.type "tuple") Option.none (Data.seq #[Value.str (Str.ofString "codes") 323, Value.str (Str.ofString "count") 324, Value.str (Str.ofString "is_big") 325, Value.str (Str.ofString "row") 326, Value.str (Str.ofString "k") 327, Value.str (Str.ofString "is_high") 328] 0) #[]
noncomputable def ko_106 (P : Params) : Obj := Obj.mk (Value.type "tuple") Option.none (Data.seq #[] 0) #[]
noncomputable def ko_107 (P : Params) : Obj := (fun x0 x1 x2 x3 x4 x5 x6 x7 x8 x9 xr (_ : PySem.Challenge.pw_tk0063_01.main.body.drop 12 = Stmt.FunctionDef x0 x1 x2 x3 x4 x5 x6 x7 x8 x9 :: xr) => Obj.mk Value.none Option.none (Data.func (FuncData.mk x8 x8 x1 (FuncBody.stmts x2) x6 0 [] Value.none Value.none Value.none Value.none Option.none Value.none Value.none 0)) #[]) _ _ _ _ _ _ _ _ _ _ _ rfl
noncomputable def ko_108 (P : Params) : Obj := Obj.mk (Value.type "code") Option.none (Data.fields #[Value.str (Str.ofString "row_of_nibbles") 320, Value.str (Str.ofString "row_of_nibbles") 321, Value.str (Str.ofString "/claim/cut.py") 322, Value.int 80 0, Value.int 3 0, Value.int 0 0, Value.int 0 0, Value.int 3 0, Value.ref 103, Value.bool Bool.true, Value.int 181 0, Value.ref 104, Value.none, Value.ref 105, Value.ref 106, Value.ref 107, Value.int 329 0, Value.int 80 0, Value.str (Str.ofString "/claim/cut.py") 330]) #[]
noncomputable def ko_109 (P : Params) : Obj := (fun x0 x1 x2 x3 x4 x5 x6 x7 x8 x9 xr (_ : PySem.Challenge.pw_tk0063_01.main.body.drop 12 = Stmt.FunctionDef x0 x1 x2 x3 x4 x5 x6 x7 x8 x9 :: xr) => Obj.mk (Value.type "function") Option.none (Data.func (FuncData.mk x8 x8 x1 (FuncBody.stmts x2) x6 3 [] Value.none Value.none Value.none (Value.str (Str.ofString "perlcore.packbits") 243) Option.none (Value.ref 108) Value.none 0)) #[]) _ _ _ _ _ _ _ _ _ _ _ rfl
noncomputable def ko_110 (P : Params) : Obj := Obj.mk (Value.type "tuple") Option.none (Data.seq #[] 0) #[]
noncomputable def ko_111 (P : Params) : Obj := Obj.mk Value.none Option.none (Data.fields #[]) #[]
noncomputable def ko_112 (P : Params) : Obj := Obj.mk (Value.type "tuple") Option.none (Data.seq #[Value.str (Str.ofString "row") 335, Value.str (Str.ofString "count") 336, Value.str (Str.ofString "is_big") 337, Value.str (Str.ofString "signs") 338, Value.str (Str.ofString "k") 339, Value.str (Str.ofString "is_high") 340] 0) #[]
noncomputable def ko_113 (P : Params) : Obj := Obj.mk (Value.type "tuple") Option.none (Data.seq #[] 0) #[]
noncomputable def ko_114 (P : Params) : Obj := (fun x0 x1 x2 x3 x4 x5 x6 x7 x8 x9 xr (_ : PySem.Challenge.pw_tk0063_01.main.body.drop 13 = Stmt.FunctionDef x0 x1 x2 x3 x4 x5 x6 x7 x8 x9 :: xr) => Obj.mk Value.none Option.none (Data.func (FuncData.mk x8 x8 x1 (FuncBody.stmts x2) x6 0 [] Value.none Value.none Value.none Value.none Option.none Value.none Value.none 0)) #[]) _ _ _ _ _ _ _ _ _ _ _ rfl
noncomputable def ko_115 (P : Params) : Obj := Obj.mk (Value.type "code") Option.none (Data.fields #[Value.str (Str.ofString "nibbles_of_row") 332, Value.str (Str.ofString "nibbles_of_row") 333, Value.str (Str.ofString "/claim/cut.py") 334, Value.int 86 0, Value.int 3 0, Value.int 0 0, Value.int 0 0, Value.int 3 0, Value.ref 110, Value.bool Bool.true, Value.int 181 0, Value.ref 111, Value.none, Value.ref 112, Value.ref 113, Value.ref 114, Value.int 341 0, Value.int 86 0, Value.str (Str.ofString "/claim/cut.py") 342]) #[]
noncomputable def ko_116 (P : Params) : Obj := (fun x0 x1 x2 x3 x4 x5 x6 x7 x8 x9 xr (_ : PySem.Challenge.pw_tk0063_01.main.body.drop 13 = Stmt.FunctionDef x0 x1 x2 x3 x4 x5 x6 x7 x8 x9 :: xr) => Obj.mk (Value.type "function") Option.none (Data.func (FuncData.mk x8 x8 x1 (FuncBody.stmts x2) x6 3 [] Value.none Value.none Value.none (Value.str (Str.ofString "perlcore.packbits") 243) Option.none (Value.ref 115) Value.none 0)) #[]) _ _ _ _ _ _ _ _ _ _ _ rfl
noncomputable def ko_117 (P : Params) : Obj := Obj.mk (Value.type "tuple") Option.none (Data.seq #[] 0) #[]
noncomputable def ko_118 (P : Params) : Obj := Obj.mk Value.none Option.none (Data.fields #[]) #[]
noncomputable def ko_119 (P : Params) : Obj := Obj.mk (Value.type "tuple") Option.none (Data.seq #[Value.str (Str.ofString "six") 347] 0) #[]
noncomputable def ko_120 (P : Params) : Obj := Obj.mk (Value.type "tuple") Option.none (Data.seq #[] 0) #[]
noncomputable def ko_121 (P : Params) : Obj := (fun x0 x1 x2 x3 x4 x5 x6 x7 x8 x9 xr (_ : PySem.Challenge.pw_tk0063_01.main.body.drop 14 = Stmt.FunctionDef x0 x1 x2 x3 x4 x5 x6 x7 x8 x9 :: xr) => Obj.mk Value.none Option.none (Data.func (FuncData.mk x8 x8 x1 (FuncBody.stmts x2) x6 0 [] Value.none Value.none Value.none Value.none Option.none Value.none Value.none 0)) #[]) _ _ _ _ _ _ _ _ _ _ _ rfl
noncomputable def ko_122 (P : Params) : Obj := Obj.mk (Value.type "code") Option.none (Data.fields #[Value.str (Str.ofString "uu_sign") 344, Value.str (Str.ofString "uu_sign") 345, Value.str (Str.ofString "/claim/cut.py") 346, Value.int 92 0, Value.int 1 0, Value.int 0 0, Value.int 0 0, Value.int 3 0, Value.ref 117, Value.bool Bool.true, Value.int 181 0, Value.ref 118, Value.none, Value.ref 119, Value.ref 120, Value.ref 121, Value.int 348 0, Value.int 92 0, Value.str (Str.ofString "/claim/cut.py") 349]) #[]
noncomputable def ko_123 (P : Params) : Obj := (fun x0 x1 x2 x3 x4 x5 x6 x7 x8 x9 xr (_ : PySem.Challenge.pw_tk0063_01.main.body.drop 14 = Stmt.FunctionDef x0 x1 x2 x3 x4 x5 x6 x7 x8 x9 :: xr) => Obj.mk (Value.type "function") Option.none (Data.func (FuncData.mk x8 x8 x1 (FuncBody.stmts x2) x6 3 [] Value.none Value.none Value.none (Value.str (Str.ofString "perlcore.packbits") 243) Option.none (Value.ref 122) Value.none 0)) #[]) _ _ _ _ _ _ _ _ _ _ _ rfl
noncomputable def ko_124 (P : Params) : Obj := Obj.mk (Value.type "tuple") Option.none (Data.seq #[] 0) #[]
noncomputable def ko_125 (P : Params) : Obj := Obj.mk Value.none Option.none (Data.fields #[]) #[]
noncomputable def ko_126 (P : Params) : Obj := Obj.mk (Value.type "tuple") Option.none (Data.seq #[Value.str (Str.ofString "part") 354, Value.str (Str.ofString "row") 355, Value.str (Str.ofString "at") 356, Value.str (Str.ofString "three") 357, Value.str (Str.ofString "bits") 358, Value.str (Str.ofString "shift") 359] 0) #[]
noncomputable def ko_127 (P : Params) : Obj := Obj.mk (Value.type "tuple") Option.none (Data.seq #[] 0) #[]
noncomputable def ko_128 (P : Params) : Obj := (fun x0 x1 x2 x3 x4 x5 x6 x7 x8 x9 xr (_ : PySem.Challenge.pw_tk0063_01.main.body.drop 15 = Stmt.FunctionDef x0 x1 x2 x3 x4 x5 x6 x7 x8 x9 :: xr) => Obj.mk Value.none Option.none (Data.func (FuncData.mk x8 x8 x1 (FuncBody.stmts x2) x6 0 [] Value.none Value.none Value.none Value.none Option.none Value.none Value.none 0)) #[]) _ _ _ _ _ _ _ _ _ _ _ rfl
noncomputable def ko_129 (P : Params) : Obj := Obj.mk (Value.type "code") Option.none (Data.fields #[Value.str (Str.ofString "uu_line") 351, Value.str (Str.ofString "uu_line") 352, Value.str (Str.ofString "/claim/cut.py") 353, Value.int 94 0, Value.int 1 0, Value.int 0 0, Value.int 0 0, Value.int 3 0, Value.ref 124, Value.bool Bool.true, Value.int 181 0, Value.ref 125, Value.none, Value.ref 126, Value.ref 127, Value.ref 128, Value.int 360 0, Value.int 94 0, Value.str (Str.ofString "/claim/cut.py") 361]) #[]
noncomputable def ko_130 (P : Params) : Obj := (fun x0 x1 x2 x3 x4 x5 x6 x7 x8 x9 xr (_ : PySem.Challenge.pw_tk0063_01.main.body.drop 15 = Stmt.FunctionDef x0 x1 x2 x3 x4 x5 x6 x7 x8 x9 :: xr) => Obj.mk (Value.type "function") Option.none (Data.func (FuncData.mk x8 x8 x1 (FuncBody.stmts x2) x6 3 [] Value.none Value.none Value.none (Value.str (Str.ofString "perlcore.packbits") 243) Option.none (Value.ref 129) Value.none 0)) #[]) _ _ _ _ _ _ _ _ _ _ _ rfl
noncomputable def ko_131 (P : Params) : Obj := Obj.mk (Value.type "tuple") Option.none (Data.seq #[] 0) #[]
noncomputable def ko_132 (P : Params) : Obj := Obj.mk Value.none Option.none (Data.fields #[]) #[]
noncomputable def ko_133 (P : Params) : Obj := Obj.mk (Value.type "tuple") Option.none (Data.seq #[Value.str (Str.ofString "data") 366, Value.str (Str.ofString "count") 367, Value.str (Str.ofString "wide") 368, Value.str (Str.ofString "row") 369, Value.str (Str.ofString "at") 370] 0) #[]
noncomputable def ko_134 (P : Params) : Obj := Obj.mk (Value.type "tuple") Option.none (Data.seq #[] 0) #[]
noncomputable def ko_135 (P : Params) : Obj := (fun x0 x1 x2 x3 x4 x5 x6 x7 x8 x9 xr (_ : PySem.Challenge.pw_tk0063_01.main.body.drop 16 = Stmt.FunctionDef x0 x1 x2 x3 x4 x5 x6 x7 x8 x9 :: xr) => Obj.mk Value.none Option.none (Data.func (FuncData.mk x8 x8 x1 (FuncBody.stmts x2) x6 0 [] Value.none Value.none Value.none Value.none Option.none Value.none Value.none 0)) #[]) _ _ _ _ _ _ _ _ _ _ _ rfl
noncomputable def ko_136 (P : Params) : Obj := Obj.mk (Value.type "code") Option.none (Data.fields #[Value.str (Str.ofString "row_of_uu") 363, Value.str (Str.ofString "row_of_uu") 364, Value.str (Str.ofString "/claim/cut.py") 365, Value.int 103 0, Value.int 2 0, Value.int 0 0, Value.int 0 0, Value.int 3 0, Value.ref 131, Value.bool Bool.true, Value.int 181 0, Value.ref 132, Value.none, Value.ref 133, Value.ref 134, Value.ref 135, Value.int 371 0, Value.int 103 0, Value.str (Str.ofString "/claim/cut.py") 372]) #[]
noncomputable def ko_137 (P : Params) : Obj := (fun x0 x1 x2 x3 x4 x5 x6 x7 x8 x9 xr (_ : PySem.Challenge.pw_tk0063_01.main.body.drop 16 = Stmt.FunctionDef x0 x1 x2 x3 x4 x5 x6 x7 x8 x9 :: xr) => Obj.mk (Value.type "function") Option.none (Data.func (FuncData.mk x8 x8 x1 (FuncBody.stmts x2) x6 3 [] Value.none Value.none Value.none (Value.str (Str.ofString "perlcore.packbits") 243) Option.none (Value.ref 136) Value.none 0)) #[]) _ _ _ _ _ _ _ _ _ _ _ rfl
noncomputable def ko_138 (P : Params) : Obj := Obj.mk (Value.type "tuple") Option.none (Data.seq #[] 0) #[]
noncomputable def ko_139 (P : Params) : Obj := Obj.mk Value.none Option.none (Data.fields #[]) #[]
noncomputable def ko_140 (P : Params) : Obj := Obj.mk (Value.type "tuple") Option.none (Data.seq #[Value.str (Str.ofString "data") 377, Value.str (Str.ofString "at") 378] 0) #[]
noncomputable def ko_141 (P : Params) : Obj := Obj.mk (Value.type "tuple") Option.none (Data.seq #[] 0) #[]
noncomputable def ko_142 (P : Params) : Obj := (fun x0 x1 x2 x3 x4 x5 x6 x7 x8 x9 xr (_ : PySem.Challenge.pw_tk0063_01.main.body.drop 17 = Stmt.FunctionDef x0 x1 x2 x3 x4 x5 x6 x7 x8 x9 :: xr) => Obj.mk Value.none Option.none (Data.func (FuncData.mk x8 x8 x1 (FuncBody.stmts x2) x6 0 [] Value.none Value.none Value.none Value.none Option.none Value.none Value.none 0)) #[]) _ _ _ _ _ _ _ _ _ _ _ rfl
noncomputable def ko_143 (P : Params) : Obj := Obj.mk (Value.type "code") Option.none (Data.fields #[Value.str (Str.ofString "is_uu") 374, Value.str (Str.ofString "is_uu") 375, Value.str (Str.ofString "/claim/cut.py") 376, Value.int 109 0, Value.int 2 0, Value.int 0 0, Value.int 0 0, Value.int 3 0, Value.ref 138, Value.bool Bool.true, Value.int 181 0, Value.ref 139, Value.none, Value.ref 140, Value.ref 141, Value.ref 142, Value.int 379 0, Value.int 109 0, Value.str (Str.ofString "/claim/cut.py") 380]) #[]
noncomputable def ko_144 (P : Params) : Obj := (fun x0 x1 x2 x3 x4 x5 x6 x7 x8 x9 xr (_ : PySem.Challenge.pw_tk0063_01.main.body.drop 17 = Stmt.FunctionDef x0 x1 x2 x3 x4 x5 x6 x7 x8 x9 :: xr) => Obj.mk (Value.type "function") Option.none (Data.func (FuncData.mk x8 x8 x1 (FuncBody.stmts x2) x6 3 [] Value.none Value.none Value.none (Value.str (Str.ofString "perlcore.packbits") 243) Option.none (Value.ref 143) Value.none 0)) #[]) _ _ _ _ _ _ _ _ _ _ _ rfl
noncomputable def ko_145 (P : Params) : Obj := Obj.mk (Value.type "tuple") Option.none (Data.seq #[] 0) #[]
noncomputable def ko_146 (P : Params) : Obj := Obj.mk Value.none Option.none (Data.fields #[]) #[]
noncomputable def ko_147 (P : Params) : Obj := Obj.mk (Value.type "tuple") Option.none (Data.seq #[Value.str (Str.ofString "data") 385, Value.str (Str.ofString "at") 386] 0) #[]
noncomputable def ko_148 (P : Params) : Obj := Obj.mk (Value.type "tuple") Option.none (Data.seq #[] 0) #[]
noncomputable def ko_149 (P : Params) : Obj := (fun x0 x1 x2 x3 x4 x5 x6 x7 x8 x9 xr (_ : PySem.Challenge.pw_tk0063_01.main.body.drop 18 = Stmt.FunctionDef x0 x1 x2 x3 x4 x5 x6 x7 x8 x9 :: xr) => Obj.mk Value.none Option.none (Data.func (FuncData.mk x8 x8 x1 (FuncBody.stmts x2) x6 0 [] Value.none Value.none Value.none Value.none Option.none Value.none Value.none 0)) #[]) _ _ _ _ _ _ _ _ _ _ _ rfl
noncomputable def ko_150 (P : Params) : Obj := Obj.mk (Value.type "code") Option.none (Data.fields #[Value.str (Str.ofString "uu_six") 382, Value.str (Str.ofString "uu_six") 383, Value.str (Str.ofString "/claim/cut.py") 384, Value.int 111 0, Value.int 2 0, Value.int 0 0, Value.int 0 0, Value.int 3 0, Value.ref 145, Value.bool Bool.true, Value.int 181 0, Value.ref 146, Value.none, Value.ref 147, Value.ref 148, Value.ref 149, Value.int 387 0, Value.int 111 0, Value.str (Str.ofString "/claim/cut.py") 388]) #[]
noncomputable def ko_151 (P : Params) : Obj := (fun x0 x1 x2 x3 x4 x5 x6 x7 x8 x9 xr (_ : PySem.Challenge.pw_tk0063_01.main.body.drop 18 = Stmt.FunctionDef x0 x1 x2 x3 x4 x5 x6 x7 x8 x9 :: xr) => Obj.mk (Value.type "function") Option.none (Data.func (FuncData.mk x8 x8 x1 (FuncBody.stmts x2) x6 3 [] Value.none Value.none Value.none (Value.str (Str.ofString "perlcore.packbits") 243) Option.none (Value.ref 150) Value.none 0)) #[]) _ _ _ _ _ _ _ _ _ _ _ rfl
noncomputable def ko_152 (P : Params) : Obj := Obj.mk (Value.type "tuple") Option.none (Data.seq #[] 0) #[]
noncomputable def ko_153 (P : Params) : Obj := Obj.mk Value.none Option.none (Data.fields #[]) #[]
noncomputable def ko_154 (P : Params) : Obj := Obj.mk (Value.type "tuple") Option.none (Data.seq #[Value.str (Str.ofString "data") 393, Value.str (Str.ofString "at") 394, Value.str (Str.ofString "size") 395, Value.str (Str.ofString "row") 396, Value.str (Str.ofString "bits") 397, Value.str (Str.ofString "k") 398] 0) #[]
noncomputable def ko_155 (P : Params) : Obj := Obj.mk (Value.type "tuple") Option.none (Data.seq #[] 0) #[]
noncomputable def ko_156 (P : Params) : Obj := (fun x0 x1 x2 x3 x4 x5 x6 x7 x8 x9 xr (_ : PySem.Challenge.pw_tk0063_01.main.body.drop 19 = Stmt.FunctionDef x0 x1 x2 x3 x4 x5 x6 x7 x8 x9 :: xr) => Obj.mk Value.none Option.none (Data.func (FuncData.mk x8 x8 x1 (FuncBody.stmts x2) x6 0 [] Value.none Value.none Value.none Value.none Option.none Value.none Value.none 0)) #[]) _ _ _ _ _ _ _ _ _ _ _ rfl
noncomputable def ko_157 (P : Params) : Obj := Obj.mk (Value.type "code") Option.none (Data.fields #[Value.str (Str.ofString "read_uu_line") 390, Value.str (Str.ofString "read_uu_line") 391, Value.str (Str.ofString "/claim/cut.py") 392, Value.int 113 0, Value.int 2 0, Value.int 0 0, Value.int 0 0, Value.int 3 0, Value.ref 152, Value.bool Bool.true, Value.int 181 0, Value.ref 153, Value.none, Value.ref 154, Value.ref 155, Value.ref 156, Value.int 399 0, Value.int 113 0, Value.str (Str.ofString "/claim/cut.py") 400]) #[]
noncomputable def ko_158 (P : Params) : Obj := (fun x0 x1 x2 x3 x4 x5 x6 x7 x8 x9 xr (_ : PySem.Challenge.pw_tk0063_01.main.body.drop 19 = Stmt.FunctionDef x0 x1 x2 x3 x4 x5 x6 x7 x8 x9 :: xr) => Obj.mk (Value.type "function") Option.none (Data.func (FuncData.mk x8 x8 x1 (FuncBody.stmts x2) x6 3 [] Value.none Value.none Value.none (Value.str (Str.ofString "perlcore.packbits") 243) Option.none (Value.ref 157) Value.none 0)) #[]) _ _ _ _ _ _ _ _ _ _ _ rfl
noncomputable def ko_159 (P : Params) : Obj := Obj.mk (Value.type "tuple") Option.none (Data.seq #[] 0) #[]
noncomputable def ko_160 (P : Params) : Obj := Obj.mk Value.none Option.none (Data.fields #[]) #[]
noncomputable def ko_161 (P : Params) : Obj := Obj.mk (Value.type "tuple") Option.none (Data.seq #[Value.str (Str.ofString "data") 405, Value.str (Str.ofString "at") 406, Value.str (Str.ofString "row") 407, Value.str (Str.ofString "part") 408] 0) #[]
noncomputable def ko_162 (P : Params) : Obj := Obj.mk (Value.type "tuple") Option.none (Data.seq #[] 0) #[]
noncomputable def ko_163 (P : Params) : Obj := (fun x0 x1 x2 x3 x4 x5 x6 x7 x8 x9 xr (_ : PySem.Challenge.pw_tk0063_01.main.body.drop 20 = Stmt.FunctionDef x0 x1 x2 x3 x4 x5 x6 x7 x8 x9 :: xr) => Obj.mk Value.none Option.none (Data.func (FuncData.mk x8 x8 x1 (FuncBody.stmts x2) x6 0 [] Value.none Value.none Value.none Value.none Option.none Value.none Value.none 0)) #[]) _ _ _ _ _ _ _ _ _ _ _ rfl
noncomputable def ko_164 (P : Params) : Obj := Obj.mk (Value.type "code") Option.none (Data.fields #[Value.str (Str.ofString "read_uu") 402, Value.str (Str.ofString "read_uu") 403, Value.str (Str.ofString "/claim/cut.py") 404, Value.int 130 0, Value.int 2 0, Value.int 0 0, Value.int 0 0, Value.int 3 0, Value.ref 159, Value.bool Bool.true, Value.int 181 0, Value.ref 160, Value.none, Value.ref 161, Value.ref 162, Value.ref 163, Value.int 409 0, Value.int 130 0, Value.str (Str.ofString "/claim/cut.py") 410]) #[]
noncomputable def ko_165 (P : Params) : Obj := (fun x0 x1 x2 x3 x4 x5 x6 x7 x8 x9 xr (_ : PySem.Challenge.pw_tk0063_01.main.body.drop 20 = Stmt.FunctionDef x0 x1 x2 x3 x4 x5 x6 x7 x8 x9 :: xr) => Obj.mk (Value.type "function") Option.none (Data.func (FuncData.mk x8 x8 x1 (FuncBody.stmts x2) x6 3 [] Value.none Value.none Value.none (Value.str (Str.ofString "perlcore.packbits") 243) Option.none (Value.ref 164) Value.none 0)) #[]) _ _ _ _ _ _ _ _ _ _ _ rfl
noncomputable def ko_166 (P : Params) : Obj := Obj.mk (Value.type "tuple") Option.none (Data.seq #[] 0) #[]
noncomputable def ko_167 (P : Params) : Obj := Obj.mk Value.none Option.none (Data.fields #[]) #[]
noncomputable def ko_168 (P : Params) : Obj := Obj.mk (Value.type "tuple") Option.none (Data.seq #[] 0) #[]
noncomputable def ko_169 (P : Params) : Obj := Obj.mk (Value.type "tuple") Option.none (Data.seq #[] 0) #[]
noncomputable def ko_170 (P : Params) : Obj := (fun x0 x1 x2 x3 x4 x5 x6 x7 x8 x9 xr (_ : PySem.Challenge.pw_tk0063_01.main.body.drop 22 = Stmt.FunctionDef x0 x1 x2 x3 x4 x5 x6 x7 x8 x9 :: xr) => Obj.mk Value.none Option.none (Data.func (FuncData.mk x8 x8 x1 (FuncBody.stmts x2) x6 0 [] Value.none Value.none Value.none Value.none Option.none Value.none Value.none 0)) #[]) _ _ _ _ _ _ _ _ _ _ _ rfl
noncomputable def ko_171 (P : Params) : Obj := Obj.mk (Value.type "code") Option.none (Data.fields #[Value.str (Str.ofString "_law_bounds") 414, Value.str (Str.ofString "_law_bounds") 415, Value.str (Str.ofString "/claim/cut.py") 416, Value.int 137 0, Value.int 0 0, Value.int 0 0, Value.int 0 0, Value.int 3 0, Value.ref 166, Value.bool Bool.true, Value.int 181 0, Value.ref 167, Value.none, Value.ref 168, Value.ref 169, Value.ref 170, Value.int 417 0, Value.int 137 0, Value.str (Str.ofString "/claim/cut.py") 418]) #[]
noncomputable def ko_172 (P : Params) : Obj := (fun x0 x1 x2 x3 x4 x5 x6 x7 x8 x9 xr (_ : PySem.Challenge.pw_tk0063_01.main.body.drop 22 = Stmt.FunctionDef x0 x1 x2 x3 x4 x5 x6 x7 x8 x9 :: xr) => Obj.mk (Value.type "function") Option.none (Data.func (FuncData.mk x8 x8 x1 (FuncBody.stmts x2) x6 3 [] Value.none Value.none Value.none (Value.str (Str.ofString "law_tk0063_01") 412) Option.none (Value.ref 171) Value.none 0)) #[]) _ _ _ _ _ _ _ _ _ _ _ rfl
noncomputable def ko_173 (P : Params) : Obj := Obj.mk (Value.type "tuple") Option.none (Data.seq #[Value.int 2 420, Value.int 3 421, Value.int 1 422, Value.int 4 423, Value.int 4 424, Value.int 68 425, Value.int 6 426, Value.int 3 427, Value.int 10 428, Value.int 6 429, Value.int 3 430] 0) #[]
noncomputable def ko_174 (P : Params) : Obj := Obj.mk (Value.type "tuple") Option.none (Data.seq #[] 0) #[]
noncomputable def ko_175 (P : Params) : Obj := Obj.mk Value.none Option.none (Data.fields #[]) #[]
noncomputable def ko_176 (P : Params) : Obj := Obj.mk (Value.type "tuple") Option.none (Data.seq #[Value.str (Str.ofString "mill") 435, Value.str (Str.ofString "many") 436, Value.str (Str.ofString "spot") 437] 0) #[]
noncomputable def ko_177 (P : Params) : Obj := Obj.mk (Value.type "tuple") Option.none (Data.seq #[] 0) #[]
noncomputable def ko_178 (P : Params) : Obj := (fun x0 x1 x2 x3 x4 x5 x6 x7 x8 x9 xr (_ : PySem.Challenge.pw_tk0063_01.main.body.drop 24 = Stmt.FunctionDef x0 x1 x2 x3 x4 x5 x6 x7 x8 x9 :: xr) => Obj.mk Value.none Option.none (Data.func (FuncData.mk x8 x8 x1 (FuncBody.stmts x2) x6 0 [] Value.none Value.none Value.none Value.none Option.none Value.none Value.none 0)) #[]) _ _ _ _ _ _ _ _ _ _ _ rfl
noncomputable def ko_179 (P : Params) : Obj := Obj.mk (Value.type "code") Option.none (Data.fields #[Value.str (Str.ofString "_law_crank") 432, Value.str (Str.ofString "_law_crank") 433, Value.str (Str.ofString "/claim/cut.py") 434, Value.int 140 0, Value.int 2 0, Value.int 0 0, Value.int 0 0, Value.int 3 0, Value.ref 174, Value.bool Bool.true, Value.int 181 0, Value.ref 175, Value.none, Value.ref 176, Value.ref 177, Value.ref 178, Value.int 438 0, Value.int 140 0, Value.str (Str.ofString "/claim/cut.py") 439]) #[]
noncomputable def ko_180 (P : Params) : Obj := (fun x0 x1 x2 x3 x4 x5 x6 x7 x8 x9 xr (_ : PySem.Challenge.pw_tk0063_01.main.body.drop 24 = Stmt.FunctionDef x0 x1 x2 x3 x4 x5 x6 x7 x8 x9 :: xr) => Obj.mk (Value.type "function") Option.none (Data.func (FuncData.mk x8 x8 x1 (FuncBody.stmts x2) x6 3 [] Value.none Value.none Value.none (Value.str (Str.ofString "law_tk0063_01") 412) Option.none (Value.ref 179) Value.none 0)) #[]) _ _ _ _ _ _ _ _ _ _ _ rfl
noncomputable def ko_181 (P : Params) : Obj := Obj.mk (Value.type "tuple") Option.none (Data.seq #[] 0) #[]
noncomputable def ko_182 (P : Params) : Obj := Obj.mk Value.none Option.none (Data.fields #[]) #[]
noncomputable def ko_183 (P : Params) : Obj := Obj.mk (Value.type "tuple") Option.none (Data.seq #[Value.str (Str.ofString "mill") 444, Value.str (Str.ofString "bound") 445, Value.str (Str.ofString "way") 446] 0) #[]
noncomputable def ko_184 (P : Params) : Obj := Obj.mk (Value.type "tuple") Option.none (Data.seq #[] 0) #[]
noncomputable def ko_185 (P : Params) : Obj := (fun x0 x1 x2 x3 x4 x5 x6 x7 x8 x9 xr (_ : PySem.Challenge.pw_tk0063_01.main.body.drop 25 = Stmt.FunctionDef x0 x1 x2 x3 x4 x5 x6 x7 x8 x9 :: xr) => Obj.mk Value.none Option.none (Data.func (FuncData.mk x8 x8 x1 (FuncBody.stmts x2) x6 0 [] Value.none Value.none Value.none Value.none Option.none Value.none Value.none 0)) #[]) _ _ _ _ _ _ _ _ _ _ _ rfl
noncomputable def ko_186 (P : Params) : Obj := Obj.mk (Value.type "code") Option.none (Data.fields #[Value.str (Str.ofString "_law_number") 441, Value.str (Str.ofString "_law_number") 442, Value.str (Str.ofString "/claim/cut.py") 443, Value.int 144 0, Value.int 1 0, Value.int 0 0, Value.int 0 0, Value.int 3 0, Value.ref 181, Value.bool Bool.true, Value.int 181 0, Value.ref 182, Value.none, Value.ref 183, Value.ref 184, Value.ref 185, Value.int 447 0, Value.int 144 0, Value.str (Str.ofString "/claim/cut.py") 448]) #[]
noncomputable def ko_187 (P : Params) : Obj := (fun x0 x1 x2 x3 x4 x5 x6 x7 x8 x9 xr (_ : PySem.Challenge.pw_tk0063_01.main.body.drop 25 = Stmt.FunctionDef x0 x1 x2 x3 x4 x5 x6 x7 x8 x9 :: xr) => Obj.mk (Value.type "function") Option.none (Data.func (FuncData.mk x8 x8 x1 (FuncBody.stmts x2) x6 3 [] Value.none Value.none Value.none (Value.str (Str.ofString "law_tk0063_01") 412) Option.none (Value.ref 186) Value.none 0)) #[]) _ _ _ _ _ _ _ _ _ _ _ rfl
noncomputable def ko_188 (P : Params) : Obj := Obj.mk (Value.type "tuple") Option.none (Data.seq #[] 0) #[]
noncomputable def ko_189 (P : Params) : Obj := Obj.mk Value.none Option.none (Data.fields #[]) #[]
noncomputable def ko_190 (P : Params) : Obj := Obj.mk (Value.type "tuple") Option.none (Data.seq #[Value.str (Str.ofString "reader") 453, Value.str (Str.ofString "row") 454, Value.str (Str.ofString "found") 455, Value.str (Str.ofString "at") 456, Value.str (Str.ofString "number") 457] 0) #[]
noncomputable def ko_191 (P : Params) : Obj := Obj.mk (Value.type "tuple") Option.none (Data.seq #[] 0) #[]
noncomputable def ko_192 (P : Params) : Obj := (fun x0 x1 x2 x3 x4 x5 x6 x7 x8 x9 xr (_ : PySem.Challenge.pw_tk0063_01.main.body.drop 26 = Stmt.FunctionDef x0 x1 x2 x3 x4 x5 x6 x7 x8 x9 :: xr) => Obj.mk Value.none Option.none (Data.func (FuncData.mk x8 x8 x1 (FuncBody.stmts x2) x6 0 [] Value.none Value.none Value.none Value.none Option.none Value.none Value.none 0)) #[]) _ _ _ _ _ _ _ _ _ _ _ rfl
noncomputable def ko_193 (P : Params) : Obj := Obj.mk (Value.type "code") Option.none (Data.fields #[Value.str (Str.ofString "_law_read_all") 450, Value.str (Str.ofString "_law_read_all") 451, Value.str (Str.ofString "/claim/cut.py") 452, Value.int 147 0, Value.int 2 0, Value.int 0 0, Value.int 0 0, Value.int 3 0, Value.ref 188, Value.bool Bool.true, Value.int 181 0, Value.ref 189, Value.none, Value.ref 190, Value.ref 191, Value.ref 192, Value.int 458 0, Value.int 147 0, Value.str (Str.ofString "/claim/cut.py") 459]) #[]
noncomputable def ko_194 (P : Params) : Obj := (fun x0 x1 x2 x3 x4 x5 x6 x7 x8 x9 xr (_ : PySem.Challenge.pw_tk0063_01.main.body.drop 26 = Stmt.FunctionDef x0 x1 x2 x3 x4 x5 x6 x7 x8 x9 :: xr) => Obj.mk (Value.type "function") Option.none (Data.func (FuncData.mk x8 x8 x1 (FuncBody.stmts x2) x6 3 [] Value.none Value.none Value.none (Value.str (Str.ofString "law_tk0063_01") 412) Option.none (Value.ref 193) Value.none 0)) #[]) _ _ _ _ _ _ _ _ _ _ _ rfl
noncomputable def ko_195 (P : Params) : Obj := Obj.mk (Value.type "tuple") Option.none (Data.seq #[] 0) #[]
noncomputable def ko_196 (P : Params) : Obj := Obj.mk Value.none Option.none (Data.fields #[]) #[]
noncomputable def ko_197 (P : Params) : Obj := Obj.mk (Value.type "tuple") Option.none (Data.seq #[Value.str (Str.ofString "row") 464, Value.str (Str.ofString "at") 465] 0) #[]
noncomputable def ko_198 (P : Params) : Obj := Obj.mk (Value.type "tuple") Option.none (Data.seq #[] 0) #[]
noncomputable def ko_199 (P : Params) : Obj := (fun x0 x1 x2 x3 x4 x5 x6 x7 x8 x9 xr (_ : PySem.Challenge.pw_tk0063_01.main.body.drop 27 = Stmt.FunctionDef x0 x1 x2 x3 x4 x5 x6 x7 x8 x9 :: xr) => Obj.mk Value.none Option.none (Data.func (FuncData.mk x8 x8 x1 (FuncBody.stmts x2) x6 0 [] Value.none Value.none Value.none Value.none Option.none Value.none Value.none 0)) #[]) _ _ _ _ _ _ _ _ _ _ _ rfl
noncomputable def ko_200 (P : Params) : Obj := Obj.mk (Value.type "code") Option.none (Data.fields #[Value.str (Str.ofString "_law_dies") 461, Value.str (Str.ofString "_law_dies") 462, Value.str (Str.ofString "/claim/cut.py") 463, Value.int 153 0, Value.int 2 0, Value.int 0 0, Value.int 0 0, Value.int 3 0, Value.ref 195, Value.bool Bool.true, Value.int 181 0, Value.ref 196, Value.none, Value.ref 197, Value.ref 198, Value.ref 199, Value.int 466 0, Value.int 153 0, Value.str (Str.ofString "/claim/cut.py") 467]) #[]
noncomputable def ko_201 (P : Params) : Obj := (fun x0 x1 x2 x3 x4 x5 x6 x7 x8 x9 xr (_ : PySem.Challenge.pw_tk0063_01.main.body.drop 27 = Stmt.FunctionDef x0 x1 x2 x3 x4 x5 x6 x7 x8 x9 :: xr) => Obj.mk (Value.type "function") Option.none (Data.func (FuncData.mk x8 x8 x1 (FuncBody.stmts x2) x6 3 [] Value.none Value.none Value.none (Value.str (Str.ofString "law_tk0063_01") 412) Option.none (Value.ref 200) Value.none 0)) #[]) _ _ _ _ _ _ _ _ _ _ _ rfl
noncomputable def ko_202 (P : Params) : Obj := Obj.mk (Value.type "tuple") Option.none (Data.seq #[] 0) #[]
noncomputable def ko_203 (P : Params) : Obj := Obj.mk Value.none Option.none (Data.fields #[]) #[]
noncomputable def ko_204 (P : Params) : Obj := (fun x0 x1 x2 x3 x4 x5 x6 x7 x8 x9 xr (_ : PySem.Challenge.pw_tk0063_01.main.body.drop 28 = Stmt.FunctionDef x0 x1 x2 x3 x4 x5 x6 x7 x8 x9 :: xr) => Obj.mk Value.none Option.none (Data.func (FuncData.mk x8 x8 x1 (FuncBody.stmts x2) x6 0 [] Value.none Value.none Value.none Value.none Option.none Value.none Value.none 0)) #[]) _ _ _ _ _ _ _ _ _ _ _ rfl
noncomputable def ko_205 (P : Params) : Obj := Obj.mk (Value.type "code") Option.none (Data.fields #[Value.str (Str.ofString "_law_codes_right") 469, Value.str (Str.ofString "_law_codes_right") 470, Value.str (Str.ofString "/claim/cut.py") 471, Value.int 159 0, Value.int 1 0, Value.int 0 0, Value.int 0 0, Value.int 3 0, Value.ref 202, Value.bool Bool.true, Value.int 181 0, Value.ref 203, Value.none, Value.none, Value.none, Value.ref 204, Value.int 472 0, Value.int 159 0, Value.str (Str.ofString "/claim/cut.py") 473]) #[]
noncomputable def ko_206 (P : Params) : Obj := (fun x0 x1 x2 x3 x4 x5 x6 x7 x8 x9 xr (_ : PySem.Challenge.pw_tk0063_01.main.body.drop 28 = Stmt.FunctionDef x0 x1 x2 x3 x4 x5 x6 x7 x8 x9 :: xr) => Obj.mk (Value.type "function") Option.none (Data.func (FuncData.mk x8 x8 x1 (FuncBody.stmts x2) x6 3 [] Value.none Value.none Value.none (Value.str (Str.ofString "law_tk0063_01") 412) Option.none (Value.ref 205) Value.none 0)) #[]) _ _ _ _ _ _ _ _ _ _ _ rfl
noncomputable def ko_207 (P : Params) : Obj := Obj.mk (Value.type "tuple") Option.none (Data.seq #[] 0) #[]
noncomputable def ko_208 (P : Params) : Obj := Obj.mk Value.none Option.none (Data.fields #[]) #[]
noncomputable def ko_209 (P : Params) : Obj := (fun x0 x1 x2 x3 x4 x5 x6 x7 x8 x9 xr (_ : PySem.Challenge.pw_tk0063_01.main.body.drop 29 = Stmt.FunctionDef x0 x1 x2 x3 x4 x5 x6 x7 x8 x9 :: xr) => Obj.mk Value.none Option.none (Data.func (FuncData.mk x8 x8 x1 (FuncBody.stmts x2) x6 0 [] Value.none Value.none Value.none Value.none Option.none Value.none Value.none 0)) #[]) _ _ _ _ _ _ _ _ _ _ _ rfl
noncomputable def ko_210 (P : Params) : Obj := Obj.mk (Value.type "code") Option.none (Data.fields #[Value.str (Str.ofString "_law_groups_right") 475, Value.str (Str.ofString "_law_groups_right") 476, Value.str (Str.ofString "/claim/cut.py") 477, Value.int 177 0, Value.int 2 0, Value.int 0 0, Value.int 0 0, Value.int 3 0, Value.ref 207, Value.bool Bool.true, Value.int 181 0, Value.ref 208, Value.none, Value.none, Value.none, Value.ref 209, Value.int 478 0, Value.int 177 0, Value.str (Str.ofString "/claim/cut.py") 479]) #[]
noncomputable def ko_211 (P : Params) : Obj := (fun x0 x1 x2 x3 x4 x5 x6 x7 x8 x9 xr (_ : PySem.Challenge.pw_tk0063_01.main.body.drop 29 = Stmt.FunctionDef x0 x1 x2 x3 x4 x5 x6 x7 x8 x9 :: xr) => Obj.mk (Value.type "function") Option.none (Data.func (FuncData.mk x8 x8 x1 (FuncBody.stmts x2) x6 3 [] Value.none Value.none Value.none (Value.str (Str.ofString "law_tk0063_01") 412) Option.none (Value.ref 210) Value.none 0)) #[]) _ _ _ _ _ _ _ _ _ _ _ rfl
noncomputable def ko_212 (P : Params) : Obj := Obj.mk (Value.type "tuple") Option.none (Data.seq #[] 0) #[]
noncomputable def ko_213 (P : Params) : Obj := Obj.mk Value.none Option.none (Data.fields #[]) #[]
noncomputable def ko_214 (P : Params) : Obj := (fun x0 x1 x2 x3 x4 x5 x6 x7 x8 x9 xr (_ : PySem.Challenge.pw_tk0063_01.main.body.drop 30 = Stmt.FunctionDef x0 x1 x2 x3 x4 x5 x6 x7 x8 x9 :: xr) => Obj.mk Value.none Option.none (Data.func (FuncData.mk x8 x8 x1 (FuncBody.stmts x2) x6 0 [] Value.none Value.none Value.none Value.none Option.none Value.none Value.none 0)) #[]) _ _ _ _ _ _ _ _ _ _ _ rfl
noncomputable def ko_215 (P : Params) : Obj := Obj.mk (Value.type "code") Option.none (Data.fields #[Value.str (Str.ofString "_law_lines_right") 481, Value.str (Str.ofString "_law_lines_right") 482, Value.str (Str.ofString "/claim/cut.py") 483, Value.int 192 0, Value.int 2 0, Value.int 0 0, Value.int 0 0, Value.int 3 0, Value.ref 212, Value.bool Bool.true, Value.int 181 0, Value.ref 213, Value.none, Value.none, Value.none, Value.ref 214, Value.int 484 0, Value.int 192 0, Value.str (Str.ofString "/claim/cut.py") 485]) #[]
noncomputable def ko_216 (P : Params) : Obj := (fun x0 x1 x2 x3 x4 x5 x6 x7 x8 x9 xr (_ : PySem.Challenge.pw_tk0063_01.main.body.drop 30 = Stmt.FunctionDef x0 x1 x2 x3 x4 x5 x6 x7 x8 x9 :: xr) => Obj.mk (Value.type "function") Option.none (Data.func (FuncData.mk x8 x8 x1 (FuncBody.stmts x2) x6 3 [] Value.none Value.none Value.none (Value.str (Str.ofString "law_tk0063_01") 412) Option.none (Value.ref 215) Value.none 0)) #[]) _ _ _ _ _ _ _ _ _ _ _ rfl
noncomputable def ko_217 (P : Params) : Obj := Obj.mk (Value.type "tuple") Option.none (Data.seq #[] 0) #[]
noncomputable def ko_218 (P : Params) : Obj := Obj.mk Value.none Option.none (Data.fields #[]) #[]
noncomputable def ko_219 (P : Params) : Obj := (fun x0 x1 x2 x3 x4 x5 x6 x7 x8 x9 xr (_ : PySem.Challenge.pw_tk0063_01.main.body.drop 31 = Stmt.FunctionDef x0 x1 x2 x3 x4 x5 x6 x7 x8 x9 :: xr) => Obj.mk Value.none Option.none (Data.func (FuncData.mk x8 x8 x1 (FuncBody.stmts x2) x6 0 [] Value.none Value.none Value.none Value.none Option.none Value.none Value.none 0)) #[]) _ _ _ _ _ _ _ _ _ _ _ rfl
noncomputable def ko_220 (P : Params) : Obj := Obj.mk (Value.type "code") Option.none (Data.fields #[Value.str (Str.ofString "law") 487, Value.str (Str.ofString "law") 488, Value.str (Str.ofString "/claim/cut.py") 489, Value.int 200 0, Value.int 1 0, Value.int 0 0, Value.int 0 0, Value.int 3 0, Value.ref 217, Value.bool Bool.true, Value.int 181 0, Value.ref 218, Value.none, Value.none, Value.none, Value.ref 219, Value.int 490 0, Value.int 200 0, Value.str (Str.ofString "/claim/cut.py") 491]) #[]
noncomputable def ko_221 (P : Params) : Obj := (fun x0 x1 x2 x3 x4 x5 x6 x7 x8 x9 xr (_ : PySem.Challenge.pw_tk0063_01.main.body.drop 31 = Stmt.FunctionDef x0 x1 x2 x3 x4 x5 x6 x7 x8 x9 :: xr) => Obj.mk (Value.type "function") Option.none (Data.func (FuncData.mk x8 x8 x1 (FuncBody.stmts x2) x6 3 [] Value.none Value.none Value.none (Value.str (Str.ofString "law_tk0063_01") 412) Option.none (Value.ref 220) Value.none 0)) #[]) _ _ _ _ _ _ _ _ _ _ _ rfl
noncomputable def frag (P : Params) : Frag := (nat_lit 0, ko_0 P) :: (nat_lit 1, ko_1 P) :: (nat_lit 2, ko_2 P) :: (nat_lit 3, ko_3 P) :: (nat_lit 4, ko_4 P) :: (nat_lit 5, ko_5 P) :: (nat_lit 6, ko_6 P) :: (nat_lit 7, ko_7 P) :: (nat_lit 8, ko_8 P) :: (nat_lit 9, ko_9 P) :: (nat_lit 10, ko_10 P) :: (nat_lit 11, ko_11 P) :: (nat_lit 12, ko_12 P) :: (nat_lit 13, ko_13 P) :: (nat_lit 14, ko_14 P) :: (nat_lit 15, ko_15 P) :: (nat_lit 22, ko_22 P) :: (nat_lit 23, ko_23 P) :: (nat_lit 24, ko_24 P) :: (nat_lit 25, ko_25 P) :: (nat_lit 26, ko_26 P) :: (nat_lit 27, ko_27 P) :: (nat_lit 28, ko_28 P) :: (nat_lit 29, ko_29 P) :: (nat_lit 30, ko_30 P) :: (nat_lit 31, ko_31 P) :: (nat_lit 32, ko_32 P) :: (nat_lit 35, ko_35 P) :: (nat_lit 42, ko_42 P) :: (nat_lit 43, ko_43 P) :: (nat_lit 44, ko_44 P) :: (nat_lit 45, ko_45 P) :: (nat_lit 46, ko_46 P) :: (nat_lit 47, ko_47 P) :: (nat_lit 48, ko_48 P) :: (nat_lit 49, ko_49 P) :: (nat_lit 50, ko_50 P) :: (nat_lit 51, ko_51 P) :: (nat_lit 54, ko_54 P) :: (nat_lit 55, ko_55 P) :: (nat_lit 56, ko_56 P) :: (nat_lit 57, ko_57 P) :: (nat_lit 58, ko_58 P) :: (nat_lit 59, ko_59 P) :: (nat_lit 60, ko_60 P) :: (nat_lit 61, ko_61 P) :: (nat_lit 62, ko_62 P) :: (nat_lit 63, ko_63 P) :: (nat_lit 64, ko_64 P) :: (nat_lit 65, ko_65 P) :: (nat_lit 66, ko_66 P) :: (nat_lit 67, ko_67 P) :: (nat_lit 68, ko_68 P) :: (nat_lit 69, ko_69 P) :: (nat_lit 70, ko_70 P) :: (nat_lit 71, ko_71 P) :: (nat_lit 72, ko_72 P) :: (nat_lit 73, ko_73 P) :: (nat_lit 74, ko_74 P) :: (nat_lit 75, ko_75 P) :: (nat_lit 76, ko_76 P) :: (nat_lit 77, ko_77 P) :: (nat_lit 78, ko_78 P) :: (nat_lit 79, ko_79 P) :: (nat_lit 80, ko_80 P) :: (nat_lit 81, ko_81 P) :: (nat_lit 82, ko_82 P) :: (nat_lit 83, ko_83 P) :: (nat_lit 84, ko_84 P) :: (nat_lit 85, ko_85 P) :: (nat_lit 86, ko_86 P) :: (nat_lit 87, ko_87 P) :: (nat_lit 88, ko_88 P) :: (nat_lit 89, ko_89 P) :: (nat_lit 90, ko_90 P) :: (nat_lit 91, ko_91 P) :: (nat_lit 92, ko_92 P) :: (nat_lit 93, ko_93 P) :: (nat_lit 94, ko_94 P) :: (nat_lit 95, ko_95 P) :: (nat_lit 96, ko_96 P) :: (nat_lit 97, ko_97 P) :: (nat_lit 98, ko_98 P) :: (nat_lit 99, ko_99 P) :: (nat_lit 100, ko_100 P) :: (nat_lit 101, ko_101 P) :: (nat_lit 102, ko_102 P) :: (nat_lit 103, ko_103 P) :: (nat_lit 104, ko_104 P) :: (nat_lit 105, ko_105 P) :: (nat_lit 106, ko_106 P) :: (nat_lit 107, ko_107 P) :: (nat_lit 108, ko_108 P) :: (nat_lit 109, ko_109 P) :: (nat_lit 110, ko_110 P) :: (nat_lit 111, ko_111 P) :: (nat_lit 112, ko_112 P) :: (nat_lit 113, ko_113 P) :: (nat_lit 114, ko_114 P) :: (nat_lit 115, ko_115 P) :: (nat_lit 116, ko_116 P) :: (nat_lit 117, ko_117 P) :: (nat_lit 118, ko_118 P) :: (nat_lit 119, ko_119 P) :: (nat_lit 120, ko_120 P) :: (nat_lit 121, ko_121 P) :: (nat_lit 122, ko_122 P) :: (nat_lit 123, ko_123 P) :: (nat_lit 124, ko_124 P) :: (nat_lit 125, ko_125 P) :: (nat_lit 126, ko_126 P) :: (nat_lit 127, ko_127 P) :: (nat_lit 128, ko_128 P) :: (nat_lit 129, ko_129 P) :: (nat_lit 130, ko_130 P) :: (nat_lit 131, ko_131 P) :: (nat_lit 132, ko_132 P) :: (nat_lit 133, ko_133 P) :: (nat_lit 134, ko_134 P) :: (nat_lit 135, ko_135 P) :: (nat_lit 136, ko_136 P) :: (nat_lit 137, ko_137 P) :: (nat_lit 138, ko_138 P) :: (nat_lit 139, ko_139 P) :: (nat_lit 140, ko_140 P) :: (nat_lit 141, ko_141 P) :: (nat_lit 142, ko_142 P) :: (nat_lit 143, ko_143 P) :: (nat_lit 144, ko_144 P) :: (nat_lit 145, ko_145 P) :: (nat_lit 146, ko_146 P) :: (nat_lit 147, ko_147 P) :: (nat_lit 148, ko_148 P) :: (nat_lit 149, ko_149 P) :: (nat_lit 150, ko_150 P) :: (nat_lit 151, ko_151 P) :: (nat_lit 152, ko_152 P) :: (nat_lit 153, ko_153 P) :: (nat_lit 154, ko_154 P) :: (nat_lit 155, ko_155 P) :: (nat_lit 156, ko_156 P) :: (nat_lit 157, ko_157 P) :: (nat_lit 158, ko_158 P) :: (nat_lit 159, ko_159 P) :: (nat_lit 160, ko_160 P) :: (nat_lit 161, ko_161 P) :: (nat_lit 162, ko_162 P) :: (nat_lit 163, ko_163 P) :: (nat_lit 164, ko_164 P) :: (nat_lit 165, ko_165 P) :: (nat_lit 166, ko_166 P) :: (nat_lit 167, ko_167 P) :: (nat_lit 168, ko_168 P) :: (nat_lit 169, ko_169 P) :: (nat_lit 170, ko_170 P) :: (nat_lit 171, ko_171 P) :: (nat_lit 172, ko_172 P) :: (nat_lit 173, ko_173 P) :: (nat_lit 174, ko_174 P) :: (nat_lit 175, ko_175 P) :: (nat_lit 176, ko_176 P) :: (nat_lit 177, ko_177 P) :: (nat_lit 178, ko_178 P) :: (nat_lit 179, ko_179 P) :: (nat_lit 180, ko_180 P) :: (nat_lit 181, ko_181 P) :: (nat_lit 182, ko_182 P) :: (nat_lit 183, ko_183 P) :: (nat_lit 184, ko_184 P) :: (nat_lit 185, ko_185 P) :: (nat_lit 186, ko_186 P) :: (nat_lit 187, ko_187 P) :: (nat_lit 188, ko_188 P) :: (nat_lit 189, ko_189 P) :: (nat_lit 190, ko_190 P) :: (nat_lit 191, ko_191 P) :: (nat_lit 192, ko_192 P) :: (nat_lit 193, ko_193 P) :: (nat_lit 194, ko_194 P) :: (nat_lit 195, ko_195 P) :: (nat_lit 196, ko_196 P) :: (nat_lit 197, ko_197 P) :: (nat_lit 198, ko_198 P) :: (nat_lit 199, ko_199 P) :: (nat_lit 200, ko_200 P) :: (nat_lit 201, ko_201 P) :: (nat_lit 202, ko_202 P) :: (nat_lit 203, ko_203 P) :: (nat_lit 204, ko_204 P) :: (nat_lit 205, ko_205 P) :: (nat_lit 206, ko_206 P) :: (nat_lit 207, ko_207 P) :: (nat_lit 208, ko_208 P) :: (nat_lit 209, ko_209 P) :: (nat_lit 210, ko_210 P) :: (nat_lit 211, ko_211 P) :: (nat_lit 212, ko_212 P) :: (nat_lit 213, ko_213 P) :: (nat_lit 214, ko_214 P) :: (nat_lit 215, ko_215 P) :: (nat_lit 216, ko_216 P) :: (nat_lit 217, ko_217 P) :: (nat_lit 218, ko_218 P) :: (nat_lit 219, ko_219 P) :: (nat_lit 220, ko_220 P) :: (nat_lit 221, ko_221 P) :: []
noncomputable def view : Program := (fun s0 s1 s2 s3 s4 s5 s6 s7 s8 s9 s10 s11 s12 s13 s14 s15 s16 s17 s18 s19 s20 s21 s22 s23 s24 s25 s26 s27 s28 s29 s30 s31 (_ : PySem.Challenge.pw_tk0063_01.main.body = [s0, s1, s2, s3, s4, s5, s6, s7, s8, s9, s10, s11, s12, s13, s14, s15, s16, s17, s18, s19, s20, s21, s22, s23, s24, s25, s26, s27, s28, s29, s30, s31]) => { PySem.Challenge.pw_tk0063_01 with main := { PySem.Challenge.pw_tk0063_01.main with body := [s1, s2, s4, s5, s6, s7, s8, s9, s10, s11, s12, s13, s14, s15, s16, s17, s18, s19, s20, s22, s23, s24, s25, s26, s27, s28, s29, s30, s31] } }) _ _ _ _ _ _ _ _ _ _ _ _ _ _ _ _ _ _ _ _ _ _ _ _ _ _ _ _ _ _ _ _ rfl
/-- the addresses of the part that is written out -/
noncomputable abbrev fragAs : List Addr := nat_lit 0 :: nat_lit 1 :: nat_lit 2 :: nat_lit 3 :: nat_lit 4 :: nat_lit 5 :: nat_lit 6 :: nat_lit 7 :: nat_lit 8 :: nat_lit 9 :: nat_lit 10 :: nat_lit 11 :: nat_lit 12 :: nat_lit 13 :: nat_lit 14 :: nat_lit 15 :: nat_lit 22 :: nat_lit 23 :: nat_lit 24 :: nat_lit 25 :: nat_lit 26 :: nat_lit 27 :: nat_lit 28 :: nat_lit 29 :: nat_lit 30 :: nat_lit 31 :: nat_lit 32 :: nat_lit 35 :: nat_lit 42 :: nat_lit 43 :: nat_lit 44 :: nat_lit 45 :: nat_lit 46 :: nat_lit 47 :: nat_lit 48 :: nat_lit 49 :: nat_lit 50 :: nat_lit 51 :: nat_lit 54 :: nat_lit 55 :: nat_lit 56 :: nat_lit 57 :: nat_lit 58 :: nat_lit 59 :: nat_lit 60 :: nat_lit 61 :: nat_lit 62 :: nat_lit 63 :: nat_lit 64 :: nat_lit 65 :: nat_lit 66 :: nat_lit 67 :: nat_lit 68 :: nat_lit 69 :: nat_lit 70 :: nat_lit 71 :: nat_lit 72 :: nat_lit 73 :: nat_lit 74 :: nat_lit 75 :: nat_lit 76 :: nat_lit 77 :: nat_lit 78 :: nat_lit 79 :: nat_lit 80 :: nat_lit 81 :: nat_lit 82 :: nat_lit 83 :: nat_lit 84 :: nat_lit 85 :: nat_lit 86 :: nat_lit 87 :: nat_lit 88 :: nat_lit 89 :: nat_lit 90 :: nat_lit 91 :: nat_lit 92 :: nat_lit 93 :: nat_lit 94 :: nat_lit 95 :: nat_lit 96 :: nat_lit 97 :: nat_lit 98 :: nat_lit 99 :: nat_lit 100 :: nat_lit 101 :: nat_lit 102 :: nat_lit 103 :: nat_lit 104 :: nat_lit 105 :: nat_lit 106 :: nat_lit 107 :: nat_lit 108 :: nat_lit 109 :: nat_lit 110 :: nat_lit 111 :: nat_lit 112 :: nat_lit 113 :: nat_lit 114 :: nat_lit 115 :: nat_lit 116 :: nat_lit 117 :: nat_lit 118 :: nat_lit 119 :: nat_lit 120 :: nat_lit 121 :: nat_lit 122 :: nat_lit 123 :: nat_lit 124 :: nat_lit 125 :: nat_lit 126 :: nat_lit 127 :: nat_lit 128 :: nat_lit 129 :: nat_lit 130 :: nat_lit 131 :: nat_lit 132 :: nat_lit 133 :: nat_lit 134 :: nat_lit 135 :: nat_lit 136 :: nat_lit 137 :: nat_lit 138 :: nat_lit 139 :: nat_lit 140 :: nat_lit 141 :: nat_lit 142 :: nat_lit 143 :: nat_lit 144 :: nat_lit 145 :: nat_lit 146 :: nat_lit 147 :: nat_lit 148 :: nat_lit 149 :: nat_lit 150 :: nat_lit 151 :: nat_lit 152 :: nat_lit 153 :: nat_lit 154 :: nat_lit 155 :: nat_lit 156 :: nat_lit 157 :: nat_lit 158 :: nat_lit 159 :: nat_lit 160 :: nat_lit 161 :: nat_lit 162 :: nat_lit 163 :: nat_lit 164 :: nat_lit 165 :: nat_lit 166 :: nat_lit 167 :: nat_lit 168 :: nat_lit 169 :: nat_lit 170 :: nat_lit 171 :: nat_lit 172 :: nat_lit 173 :: nat_lit 174 :: nat_lit 175 :: nat_lit 176 :: nat_lit 177 :: nat_lit 178 :: nat_lit 179 :: nat_lit 180 :: nat_lit 181 :: nat_lit 182 :: nat_lit 183 :: nat_lit 184 :: nat_lit 185 :: nat_lit 186 :: nat_lit 187 :: nat_lit 188 :: nat_lit 189 :: nat_lit 190 :: nat_lit 191 :: nat_lit 192 :: nat_lit 193 :: nat_lit 194 :: nat_lit 195 :: nat_lit 196 :: nat_lit 197 :: nat_lit 198 :: nat_lit 199 :: nat_lit 200 :: nat_lit 201 :: nat_lit 202 :: nat_lit 203 :: nat_lit 204 :: nat_lit 205 :: nat_lit 206 :: nat_lit 207 :: nat_lit 208 :: nat_lit 209 :: nat_lit 210 :: nat_lit 211 :: nat_lit 212 :: nat_lit 213 :: nat_lit 214 :: nat_lit 215 :: nat_lit 216 :: nat_lit 217 :: nat_lit 218 :: nat_lit 219 :: nat_lit 220 :: nat_lit 221 :: []
end Mine
-- Ba
open PySem PySem.W PyProof.Rows PySem.Calls PySem.Spec
namespace Mine

/-- a call that leaves all that stood as it was: the callee's own base is the heap at the call -/
theorem code_pure {prog : Program} {w : World} {A A₀ : Around} {s : Shared} {K : Frag} {L : Addr} {h₀ base : Heap} {m mg mb : Str → Option Value} {p : Program} {loose : List Str} {mean : ExcName → Option Value}
    {env : Env} {outer : List Env} {R : Result → Shared → Prop} {name qual : Str} {params : Arguments} {body : List Stmt} {scope : Scope} {dV kV doc pm cdv ct oc : Value} {an od : Option Addr} {osl : Array (Option Value)} {f : Addr} {args : Args} {binds : List (Str × Value)}
    (B : Below A₀ base outer h₀) (F : Fr h₀ L s.heap m) (X₀ : K.In h₀) (T : Top p loose mean mg mb h₀) (hA : A.frames = some (env :: outer)) (hf : env.frame = some L) (hke : env.scope.kind = .function)
    (ho : K.lookup f = some ⟨oc, od, .func (fnOf name qual params body scope dV kV doc pm an cdv ct), osl⟩) (hcd : codeIn K cdv qual = true) (hroom : A.depth < recursionLimit)
    (hbind : BindsTo s (fnOf name qual params body scope dV kV doc pm an cdv ct) args binds) (hloc : ∀ y ∈ binds, scope.names.lookup y.1 = some .local)
    (h : ∀ L' h₁, Fr s.heap L' h₁ (fun y => binds.reverse.lookup y) → News s.heap L' h₁ [] → Below A base (env :: outer) s.heap → K.In s.heap → Top p loose mean mg mb s.heap →
      wpAny (model prog w) (A.deeper (envOf qual scope L' f cdv)) (execs body (envOf qual scope L' f cdv))
        (fun fl s' => LeaveK h₀ L m s.heap R (match fl with | .ret v => v | _ => .none) s')
        (fun e s' => wpAny (model prog w) (A.deeper (envOf qual scope L' f cdv)) (leaving (envOf qual scope L' f cdv) e) (fun _ s'' => R (.error e) s'') (fun e' s'' => R (.error e') s'') s')
        { s with heap := h₁, toks := s.toks + binds.length })
    (hco : scope.isCoroutine = false) (hgen : scope.isGenerator = false) (hk : scope.kind = .function)
    (hcell : ∀ x ∈ scope.names, x.2 ≠ .cell) : codeAny (model prog w) A (.call (.ref f) args) R s := by
  obtain ⟨FG, BG, st, lv⟩ := groundX (R := R) B F News.nil hA hf hke
  refine codeAny_call_def (fd := fnOf name qual params body scope dV kV doc pm an cdv ct) (body := body) (binds := binds) hroom ((X₀.keeps F.keep) _ _ ho) rfl (T.nolimit.keeps F.keep) (codeRec_of (X₀.keeps F.keep) hcd) rfl hbind hcell hloc (fun h₁ hns hk₁ => ?_) hco hgen hk
  exact wpAny_mono (h s.heap.objs.size h₁ ⟨hns, hk₁, Nat.le_refl _⟩ News.nil BG (X₀.keeps F.keep) (T.keeps F.keep)) (fun fl s' hl => lv _ _ hl) fun _ _ y => y

/-- the program -/
noncomputable abbrev prg : Program := PySem.Challenge.rw_tk0063_01.row.prog
noncomputable abbrev lks : List Str := looseW Mine.view [Str.ofString "GREATEST_CODE"]

/-- what a call of the def at f with these arguments does, wherever it is made: it ends, hands back r, and all that stood stands -/
def PCall (w : World) (d : Nat) (f : Addr) (args : List Value) (pre : Heap → Prop) (post : Heap → Heap → Value → Prop) : Prop :=
  ∀ (mean : ExcName → Option Value) (mg mb : Str → Option Value) (dp un : Nat) (gd : Option (List Code)) (cn : Str) (cs : Scope) (a : Addr) (ccd : Value) (cl : List (Str × Addr)) (outer : List Env) (A₀ : Around) (base h₀ : Heap) (L : Addr) (m : Str → Option Value) (s : Shared)
    (Q E : Value → Shared → Prop),
    Below A₀ base outer h₀ → Fr h₀ L s.heap m → (Mine.frag w.params).In h₀ → Top Mine.view lks mean mg mb h₀ → cs.kind = .function → dp + d < recursionLimit → un + 10 * d < cLine → pre s.heap →
    (∀ r h' tk', s.heap.StaysIn h' → post s.heap h' r → Q r { s with heap := h', toks := tk' }) →
    wpAny (model prg w) (ktrTop dp un gd cn cs L a ccd cl outer) (call (.ref f) args) Q E s

theorem pcall_ret {h₀ h' : Heap} {L : Addr} {m : Str → Option Value} {s : Shared} {post : Heap → Value → Prop} {Q : Value → Shared → Prop} {tk' : Nat} {r : Value} (hret : ∀ r h' tk', h₀.StaysIn h' → post h' r → Q r { s with heap := h', toks := tk' })
    (F : Fr h₀ L h' m) (hp : post h' r) : Q r { s with heap := h', toks := tk' } := hret r h' tk' F.keep hp

/-- a new list of ints is handed back -/
def NewInts (h₀ h : Heap) (r : Value) (ns : List Int) : Prop := ∃ (l : Addr) (vs : List Value) (n : Nat), r = .ref l ∧ h.get? l = some (listOf vs.toArray n) ∧ h₀.get? l = none ∧ IntsAre vs ns

theorem newInts_of {h₀ h : Heap} {L l : Addr} {news : List (Addr × Obj)} {vs : List Value} {n : Nat} {ns : List Int} (N : News h₀ L h news) (hm : (l, listOf vs.toArray n) ∈ news) (hi : IntsAre vs ns) : NewInts h₀ h (.ref l) ns :=
  ⟨l, vs, n, rfl, (N _ hm).1, (N _ hm).2.2, hi⟩
/-- a new pair of ints is handed back -/
def NewPair (h₀ h : Heap) (r : Value) (a b : Int) : Prop := ∃ (p : Addr) (t u : Tok), r = .ref p ∧ h.get? p = some { cls := .type "tuple", data := .seq #[.int a t, .int b u] } ∧ h₀.get? p = none
theorem newPair_of {h₀ h : Heap} {L p : Addr} {news : List (Addr × Obj)} {a b : Int} {t u : Tok} (N : News h₀ L h news) (hm : (p, ({ cls := .type "tuple", data := .seq #[.int a t, .int b u] } : Obj)) ∈ news) : NewPair h₀ h (.ref p) a b :=
  ⟨p, t, u, rfl, (N _ hm).1, (N _ hm).2.2⟩
section
variable {w : World} {d : Nat} {f : Addr} {args : List Value} {pre : Heap → Prop} {mean : ExcName → Option Value} {mg mb : Str → Option Value} {dp un : Nat} {gd : Option (List Code)} {cn : Str} {cs : Scope} {a : Addr} {ccd : Value} {cl : List (Str × Addr)} {outer : List Env} {A₀ : Around} {base h₀ : Heap} {L : Addr} {m : Str → Option Value} {s : Shared}
    {Q E : Value → Shared → Prop} {news : List (Addr × Obj)}
theorem news_stays {h h' : Heap} (N : News h₀ L h news) (k : h.StaysIn h') : News h₀ L h' news := fun p hp => ⟨k _ _ (N p hp).1, (N p hp).2⟩
theorem fr_stays {h h' : Heap} (F : Fr h₀ L h m) (k : h.StaysIn h') : Fr h₀ L h' m := ⟨F.ns.keeps k, fun b o e => k _ _ (F.keep b o e), F.above⟩
theorem news_add {h h' : Heap} {l : Addr} {o : Obj} (F : Fr h₀ L h m) (N : News h₀ L h news) (k : h.StaysIn h') (e : h'.get? l = some o) (e0 : h.get? l = none) : News h₀ L h' ((l, o) :: news) := by
  intro p hp
  rcases List.mem_cons.mp hp with rfl | hp
  · refine ⟨e, ?_, ?_⟩
    · show l ≠ L
      intro q
      obtain ⟨oL, _, _, hL, _⟩ := F.ns
      rw [q, hL] at e0; cases e0
    · show h₀.get? l = none
      cases q : h₀.get? l with
      | none => rfl
      | some o' => rw [F.keep _ _ q] at e0; cases e0
  · exact news_stays N k p hp
def AllNe (d : Addr) : List (Addr × Obj) → Prop
  | [] => True
  | p :: r => @Ne Nat p.1 d ∧ AllNe d r
theorem allNe_of {h : Heap} {l : Addr} (e0 : h.get? l = none) : ∀ {news : List (Addr × Obj)}, News h₀ L h news → AllNe l news
  | [], _ => trivial
  | p :: r, N => by
      refine ⟨fun q => ?_, allNe_of e0 fun q hq => N q (.tail _ hq)⟩
      have q' : p.1 = l := q
      have := (N p (.head _)).1
      rw [q', e0] at this; cases this
theorem use_any {post : Heap → Heap → Value → Prop} (C : PCall w d f args pre post) (B : Below A₀ base outer h₀) (F : Fr h₀ L s.heap m) (X : (Mine.frag w.params).In h₀) (N : News h₀ L s.heap news) (T : Top Mine.view lks mean mg mb h₀) (hk : cs.kind = .function)
    (hdp : dp + d < recursionLimit) (hun : un + 10 * d < cLine) (hp : pre s.heap)
    (ret : ∀ r h' tk', Fr h₀ L h' m → News h₀ L h' news → post s.heap h' r → Q r { s with heap := h', toks := tk' }) :
    wpAny (model prg w) (ktrTop dp un gd cn cs L a ccd cl outer) (call (.ref f) args) Q E s :=
  C _ _ _ _ _ _ _ _ _ _ _ _ _ _ _ _ _ _ _ _ B F X T hk hdp hun hp fun r h' tk' k p => ret r h' tk' (fr_stays F k) (news_stays N k) p
theorem use_ints {ns : List Int} (C : PCall w d f args pre (fun h₀ h r => NewInts h₀ h r ns)) (B : Below A₀ base outer h₀) (F : Fr h₀ L s.heap m) (X : (Mine.frag w.params).In h₀) (N : News h₀ L s.heap news) (T : Top Mine.view lks mean mg mb h₀) (hk : cs.kind = .function)
    (hdp : dp + d < recursionLimit) (hun : un + 10 * d < cLine) (hp : pre s.heap)
    (ret : ∀ l vs n h' tk', Fr h₀ L h' m → News h₀ L h' ((l, listOf vs.toArray n) :: news) → AllNe l news → IntsAre vs ns → Q (.ref l) { s with heap := h', toks := tk' }) :
    wpAny (model prg w) (ktrTop dp un gd cn cs L a ccd cl outer) (call (.ref f) args) Q E s :=
  C _ _ _ _ _ _ _ _ _ _ _ _ _ _ _ _ _ _ _ _ B F X T hk hdp hun hp fun r h' tk' k p => by
    obtain ⟨l, vs, n, rfl, e, e0, hi⟩ := p
    exact ret l vs n h' tk' (fr_stays F k) (news_add F N k e e0) (allNe_of e0 N) hi
theorem use_int {x : Int} (C : PCall w d f args pre (fun h₀ h r => ∃ u, r = .int x u)) (B : Below A₀ base outer h₀) (F : Fr h₀ L s.heap m) (X : (Mine.frag w.params).In h₀) (N : News h₀ L s.heap news) (T : Top Mine.view lks mean mg mb h₀) (hk : cs.kind = .function)
    (hdp : dp + d < recursionLimit) (hun : un + 10 * d < cLine) (hp : pre s.heap)
    (ret : ∀ u h' tk', Fr h₀ L h' m → News h₀ L h' news → Q (.int x u) { s with heap := h', toks := tk' }) :
    wpAny (model prg w) (ktrTop dp un gd cn cs L a ccd cl outer) (call (.ref f) args) Q E s :=
  C _ _ _ _ _ _ _ _ _ _ _ _ _ _ _ _ _ _ _ _ B F X T hk hdp hun hp fun r h' tk' k p => by
    obtain ⟨u, rfl⟩ := p
    exact ret u h' tk' (fr_stays F k) (news_stays N k)
theorem use_bool {b : Bool} (C : PCall w d f args pre (fun h₀ h r => r = .bool b)) (B : Below A₀ base outer h₀) (F : Fr h₀ L s.heap m) (X : (Mine.frag w.params).In h₀) (N : News h₀ L s.heap news) (T : Top Mine.view lks mean mg mb h₀) (hk : cs.kind = .function)
    (hdp : dp + d < recursionLimit) (hun : un + 10 * d < cLine) (hp : pre s.heap)
    (ret : ∀ h' tk', Fr h₀ L h' m → News h₀ L h' news → Q (.bool b) { s with heap := h', toks := tk' }) :
    wpAny (model prg w) (ktrTop dp un gd cn cs L a ccd cl outer) (call (.ref f) args) Q E s :=
  C _ _ _ _ _ _ _ _ _ _ _ _ _ _ _ _ _ _ _ _ B F X T hk hdp hun hp fun r h' tk' k p => by
    subst p
    exact ret h' tk' (fr_stays F k) (news_stays N k)
theorem use_pair {x y : Int} (C : PCall w d f args pre (fun h₀ h r => NewPair h₀ h r x y)) (B : Below A₀ base outer h₀) (F : Fr h₀ L s.heap m) (X : (Mine.frag w.params).In h₀) (N : News h₀ L s.heap news) (T : Top Mine.view lks mean mg mb h₀) (hk : cs.kind = .function)
    (hdp : dp + d < recursionLimit) (hun : un + 10 * d < cLine) (hp : pre s.heap)
    (ret : ∀ l t u h' tk', Fr h₀ L h' m → News h₀ L h' ((l, { cls := .type "tuple", data := .seq #[.int x t, .int y u] }) :: news) → AllNe l news → Q (.ref l) { s with heap := h', toks := tk' }) :
    wpAny (model prg w) (ktrTop dp un gd cn cs L a ccd cl outer) (call (.ref f) args) Q E s :=
  C _ _ _ _ _ _ _ _ _ _ _ _ _ _ _ _ _ _ _ _ B F X T hk hdp hun hp fun r h' tk' k p => by
    obtain ⟨l, t, u, rfl, e, e0⟩ := p
    exact ret l t u h' tk' (fr_stays F k) (news_add F N k e e0) (allNe_of e0 N)
theorem pc_bool {b c : Bool} (C : PCall w d f args pre (fun _ _ r => r = .bool b)) (he : b = c) : PCall w d f args pre (fun _ _ r => r = .bool c) := he ▸ C
theorem pc_int {x y : Int} (C : PCall w d f args pre (fun _ _ r => ∃ u, r = .int x u)) (he : x = y) : PCall w d f args pre (fun _ _ r => ∃ u, r = .int y u) := he ▸ C
end
end Mine
-- Bt
open PySem PySem.W PyProof.Rows PySem.Calls PySem.Spec
namespace Mine
/-- the frames on the stack may have got slots; all else stands -/
def Turned (fs : List Addr) (h h' : Heap) : Prop := ∃ g, KtsTurn fs h g ∧ g.StaysIn h'
theorem Turned.of_stays {fs : List Addr} {h h' : Heap} (k : h.StaysIn h') : Turned fs h h' := ⟨h, KtsTurn.refl, k⟩
theorem Turned.other {fs : List Addr} {h h' : Heap} (t : Turned fs h h') {b : Addr} {o : Obj} (e : h.get? b = some o) (nm : b ∉ fs) : h'.get? b = some o := by
  obtain ⟨g, T, k⟩ := t
  exact k _ _ (T.other b o e nm)
theorem Turned.up {fs : List Addr} {h h' : Heap} (t : Turned fs h h') {b : Addr} {o : Obj} (e : h.get? b = some o) : ∃ sl, h'.get? b = some { o with slots := sl } := by
  obtain ⟨g, T, k⟩ := t
  obtain ⟨sl, hs⟩ := T.up e
  exact ⟨sl, k _ _ hs⟩
def LeaveT (fs : List Addr) (g : Heap) (R : Result → Shared → Prop) (v : Value) (s' : Shared) : Prop := ∃ g' L' m', KtsTurn fs g g' ∧ Fr g' L' s'.heap m' ∧ (Turned fs g s'.heap → R (.ok (.ret v)) s')
theorem leaveT_ {fs : List Addr} {g g' : Heap} {R : Result → Shared → Prop} {v : Value} {s' : Shared} {L' : Addr} {m' : Str → Option Value} (T : KtsTurn fs g g') (F : Fr g' L' s'.heap m') (h : Turned fs g s'.heap → R (.ok (.ret v)) s') : LeaveT fs g R v s' := ⟨g', L', m', T, F, h⟩
theorem dicts_push {h₀ h : Heap} {L : Addr} {m : Str → Option Value} {outer : List Env} {env : Env} (F : Fr h₀ L h m) (hf : env.frame = some L) (D : KtsDicts (outer.filterMap (·.frame)) h₀) : KtsDicts ((env :: outer).filterMap (·.frame)) h := by
  intro b hb
  obtain ⟨env', he, hf'⟩ := List.mem_filterMap.mp hb
  rcases List.mem_cons.mp he with rfl | he
  · obtain ⟨oL, es, ep, hL, hd, _⟩ := F.ns
    rw [hf] at hf'
    cases hf'
    exact ⟨oL, es, ep, hL, hd⟩
  · obtain ⟨o, es, n, ho, hd⟩ := D b (List.mem_filterMap.mpr ⟨env', he, hf'⟩)
    exact ⟨o, es, n, F.keep _ _ ho, hd⟩
/-- entering a def behind which frames may have turned -/
theorem code_turn {prog : Program} {w : World} {A A₀ : Around} {s : Shared} {K : Frag} {L : Addr} {h₀ base : Heap} {m mg mb : Str → Option Value} {p : Program} {loose : List Str} {mean : ExcName → Option Value}
    {env : Env} {outer : List Env} {R : Result → Shared → Prop} {name qual : Str} {params : Arguments} {body : List Stmt} {scope : Scope} {dV kV doc pm cdv ct oc : Value} {an od : Option Addr} {osl : Array (Option Value)} {f : Addr} {args : Args} {binds : List (Str × Value)}
    (B : Below A₀ base outer h₀) (F : Fr h₀ L s.heap m) (X₀ : K.In h₀) (T : Top p loose mean mg mb h₀) (D : KtsDicts (outer.filterMap (·.frame)) h₀) (hA : A.frames = some (env :: outer)) (hf : env.frame = some L) (hke : env.scope.kind = .function)
    (ho : K.lookup f = some ⟨oc, od, .func (fnOf name qual params body scope dV kV doc pm an cdv ct), osl⟩) (hcd : codeIn K cdv qual = true) (hroom : A.depth < recursionLimit)
    (hbind : BindsTo s (fnOf name qual params body scope dV kV doc pm an cdv ct) args binds) (hloc : ∀ y ∈ binds, scope.names.lookup y.1 = some .local)
    (h : ∀ L' h₁, Fr s.heap L' h₁ (fun y => binds.reverse.lookup y) → News s.heap L' h₁ [] → Below A base (env :: outer) s.heap → K.In s.heap → Top p loose mean mg mb s.heap → KtsDicts ((env :: outer).filterMap (·.frame)) s.heap →
      wpAny (model prog w) (A.deeper (envOf qual scope L' f cdv)) (execs body (envOf qual scope L' f cdv))
        (fun fl s' => LeaveT ((env :: outer).filterMap (·.frame)) s.heap R (match fl with | .ret v => v | _ => .none) s')
        (fun e s' => wpAny (model prog w) (A.deeper (envOf qual scope L' f cdv)) (leaving (envOf qual scope L' f cdv) e) (fun _ s'' => R (.error e) s'') (fun e' s'' => R (.error e') s'') s')
        { s with heap := h₁, toks := s.toks + binds.length })
    (hco : scope.isCoroutine = false) (hgen : scope.isGenerator = false) (hk : scope.kind = .function)
    (hcell : ∀ x ∈ scope.names, x.2 ≠ .cell) : codeAny (model prog w) A (.call (.ref f) args) R s := by
  obtain ⟨FG, BG, st, _⟩ := groundX (R := R) B F News.nil hA hf hke
  refine codeAny_call_def (fd := fnOf name qual params body scope dV kV doc pm an cdv ct) (body := body) (binds := binds) hroom ((X₀.keeps F.keep) _ _ ho) rfl (T.nolimit.keeps F.keep) (codeRec_of (X₀.keeps F.keep) hcd) rfl hbind hcell hloc (fun h₁ hns hk₁ => ?_) hco hgen hk
  refine wpAny_mono (h s.heap.objs.size h₁ ⟨hns, hk₁, Nat.le_refl _⟩ News.nil BG (X₀.keeps F.keep) (T.keeps F.keep) (dicts_push F hf D)) (fun fl s' hl => ?_) fun _ _ y => y
  obtain ⟨g', L', m', T', F', k⟩ := hl
  exact k ⟨g', T', F'.keep⟩

/-- as PCall; frames may have turned -/
def PTurn (w : World) (d : Nat) (f : Addr) (args : List Value) (pre : Heap → Prop) (post : Heap → Heap → Value → Prop) : Prop :=
  ∀ (mean : ExcName → Option Value) (mg mb : Str → Option Value) (dp un : Nat) (gd : Option (List Code)) (cn : Str) (cs : Scope) (a : Addr) (ccd : Value) (cl : List (Str × Addr)) (outer : List Env) (A₀ : Around) (base h₀ : Heap) (L : Addr) (m : Str → Option Value) (s : Shared)
    (Q E : Value → Shared → Prop),
    Below A₀ base outer h₀ → Fr h₀ L s.heap m → (Mine.frag w.params).In h₀ → Top Mine.view lks mean mg mb h₀ → KtsDicts (outer.filterMap (·.frame)) h₀ → (Mine.frag w.params).In base → Top Mine.view lks mean mg mb base →
    cs.kind = .function → dp + d < recursionLimit → un + 10 * d < cLine → pre s.heap →
    (∀ r h' tk', Turned ((envX cn cs L a ccd cl :: outer).filterMap (·.frame)) s.heap h' → post s.heap h' r → Q r { s with heap := h', toks := tk' }) →
    wpAny (model prg w) (ktrTop dp un gd cn cs L a ccd cl outer) (call (.ref f) args) Q E s

section
variable {A₀ : Around} {base h₀ h h' : Heap} {outer : List Env} {L : Addr} {m : Str → Option Value} {env : Env} {news : List (Addr × Obj)} {K : Frag} {p : Program} {loose : List Str} {mean : ExcName → Option Value} {mg mb : Str → Option Value}
/-- the caller's ground behind such a call -/
theorem turned_ground (B : Below A₀ base outer h₀) (F : Fr h₀ L h m) (N : News h₀ L h news) (hf : env.frame = some L) (D : KtsDicts (outer.filterMap (·.frame)) h₀) (XB : K.In base) (TB : Top p loose mean mg mb base) (t : Turned ((env :: outer).filterMap (·.frame)) h h') :
    ∃ g, KtsTurn (outer.filterMap (·.frame)) h₀ g ∧ Fr g L h' m ∧ News g L h' news ∧ Below A₀ base outer g ∧ K.In g ∧ Top p loose mean mg mb g ∧ KtsDicts (outer.filterMap (·.frame)) g := by
  have mem_or : ∀ {b : Addr}, b ∈ (env :: outer).filterMap (·.frame) → b = L ∨ b ∈ outer.filterMap (·.frame) := by
    intro b hb
    obtain ⟨env', he, hf'⟩ := List.mem_filterMap.mp hb
    rcases List.mem_cons.mp he with rfl | he
    · rw [hf] at hf'; cases hf'; exact .inl rfl
    · exact .inr (List.mem_filterMap.mpr ⟨env', he, hf'⟩)
  have nL₀ : h₀.get? L = none := kts_self F
  obtain ⟨T₁, S₁⟩ := kts_turn_at (h := h') (fs := outer.filterMap (·.frame)) (g := h₀)
    (fun b hb => by obtain ⟨_, o, ho', _⟩ := B.frames.mem hb; exact ⟨o, ho'⟩)
    (fun b o e nm => t.other (F.keep b o e) fun q => by
      rcases mem_or q with z | z
      · rw [z, nL₀] at e; cases e
      · exact nm z)
    (fun b o e _ => t.up (F.keep b o e))
  have B₃ : Below A₀ base outer (ktsHeap h' (outer.filterMap (·.frame)) h₀) := ⟨B.stack, fun b o e => T₁.other b o (B.stays b o e) (fun hm => by
    rw [(B.frames.mem hm).1] at e; cases e), B.frames.of_keeps fun b o e _ => by
    obtain ⟨sl', hs'⟩ := T₁.up e
    exact ⟨_, hs', rfl⟩⟩
  obtain ⟨oL, es, ep, hL, hd, hk, hfd⟩ := F.ns
  obtain ⟨sl, hs⟩ := t.up hL
  refine ⟨_, T₁, ⟨⟨_, es, ep, hs, hd, hk, hfd⟩, S₁, by rw [T₁.size]; exact F.above⟩, fun q hq => ⟨?_, (N q hq).2.1, T₁.none_ _ (N q hq).2.2⟩, B₃, XB.keeps B₃.stays, TB.keeps B₃.stays, D.turn T₁⟩
  refine t.other (N q hq).1 fun z => ?_
  rcases mem_or z with z | z
  · exact (N q hq).2.1 z
  · obtain ⟨o, ho, _⟩ := (B.frames.mem z).2
    rw [(N q hq).2.2] at ho; cases ho
end
end Mine
-- Lp
open PySem PySem.W PyProof.Rows PySem.Calls PySem.Spec
namespace Mine
theorem range_small {a b c : Int} (ha : 0 ≤ a) (hb0 : 0 ≤ b) (hb : b < 2 ^ 60) (hc : 0 < c) (hc2 : c < 2 ^ 60) (ha2 : a < 2 ^ 60) : Builtin.Range.small a b c = true := by
  have hs : 0 ≤ Builtin.Range.rangeSize a b c ∧ Builtin.Range.rangeSize a b c < 2 ^ 61 := by
    unfold Builtin.Range.rangeSize
    rw [if_pos hc]
    split
    · have h0 : 0 ≤ (b - a - 1) / c := Int.ediv_nonneg (by lia) (by lia)
      have h1 : (b - a - 1) / c ≤ b - a - 1 := Int.ediv_le_self _ (by lia)
      lia
    · lia
  have fits : ∀ x : Int, -(2 ^ 63) ≤ x → x < 2 ^ 63 → Builtin.Range.rangeFitsLong x = true := fun x h1 h2 => by
    unfold Builtin.Range.rangeFitsLong
    rw [Bool.and_eq_true]
    exact ⟨decide_eq_true h1, decide_eq_true h2⟩
  unfold Builtin.Range.small
  rw [fits a (by lia) (by lia), fits b (by lia) (by lia), fits c (by lia) (by lia), fits _ (by lia) (by lia), if_pos hc, fits (b + (c - 1)) (by lia) (by lia)]
  simp
theorem range_size {a b c : Int} {n : Nat} (hc : 0 < c) (h : if a < b then (b - a - 1) / c + 1 = n else n = 0) : Builtin.Range.rangeSize a b c = (n : Int) := by
  unfold Builtin.Range.rangeSize
  rw [if_pos hc]
  split at h
  · rw [if_pos (by assumption)]; exact h
  · rw [if_neg (by assumption), h]; rfl
section
variable {prog : Program} {w : World} {A : Around} {E : Value → Shared → Prop} {s : Shared} {env : Env} {h₀ : Heap} {x : Str} {body : List Stmt} {Q : Flow → Shared → Prop}
theorem loopV_at {I : Addr} {fp wr : List Addr} {n : Nat} {P : Nat → Value → Prop} {St : Nat → Heap → Prop} {m : Str → Option Value} {news : List (Addr × Obj)} (J : Nat → (Str → Option Value) → List (Addr × Obj) → Prop) {s₂ : Shared}
    (W : Walks prog w A I fp wr n P St) (h1 : env.locals ∉ fp) (h2 : ∀ b ∈ wr, h₀.get? b = none) (h3 : ∀ p ∈ news, p.1 ∉ wr) (h4 : St 0 s₂.heap) (F : Fr h₀ env.locals s₂.heap m) (N : News h₀ env.locals s₂.heap news) (hJ : J 0 m news)
    (turn : ∀ i v m₁ news₁ s₁ own, (∃ h tk, s₁ = { s₂ with heap := h, toks := tk }) → i < n → P i v → J i m₁ news₁ → (∀ p ∈ news₁, p.1 ∉ wr) → (∀ p ∈ own, p.1 ∈ fp) → (∀ p ∈ own, s₁.heap.get? p.1 = some p.2) → (∀ b ∈ fp, h₀.get? b = none → ∀ o, s₁.heap.get? b = some o → (b, o) ∈ own) → St (i + 1) s₁.heap →
      Fr h₀ env.locals s₁.heap (fun y => if y = x then some v else m₁ y) → News h₀ env.locals s₁.heap (own ++ news₁) →
      wpAny (model prog w) A (execs body env) (LoopStepV h₀ env.locals wr own (J (i + 1)) s₁ (fun v s' => Q (.ret v) s') fun s' => Q .next s') E s₁)
    (done : ∀ h' tk m' news', Fr h₀ env.locals h' m' → News h₀ env.locals h' news' → (∀ p ∈ news', p.1 ∉ wr) → J n m' news' → Q .next { s₂ with heap := h', toks := tk }) :
    LoopAtV prog w A h₀ env x body Q E (.ref I) s₂ := ⟨I, fp, wr, n, P, St, m, news, J, rfl, W, h1, h2, h3, h4, F, N, hJ, turn, done⟩
theorem invEnd_elim {J : (Str → Option Value) → List (Addr × Obj) → Prop} {own : List (Addr × Obj)} {adr : List Addr} {L : Addr} {s₁ s₂ : Shared} {G : Prop} (h : InvEndN h₀ L J own adr s₁ s₂)
    (k : ∀ h' tk m' news' nx, s₂ = { s₁ with heap := h', toks := tk } → Fr h₀ L h' m' → News h₀ L h' news' → (∀ p ∈ nx, p ∈ news') → (∀ p ∈ own, p ∈ news') → nx.map (·.1) = adr → J m' nx → G) : G :=
  h.elim fun h' h => h.elim fun tk h => h.elim fun m' h => h.elim fun news' h => h.elim fun nx h => k h' tk m' news' nx h.1 h.2.1 h.2.2.1 h.2.2.2.1 h.2.2.2.2.1 h.2.2.2.2.2.1 h.2.2.2.2.2.2
theorem kstS_elim {σ : Type} {Led : σ → List (Addr × Obj)} {ps : σ → List (Str × Value)} {Facts : σ → Prop} {stored : List Str} {m₀ m : Str → Option Value} {P : List Int → σ → Prop} {pre : List Int} {nx : List (Addr × Obj)} {G : Prop} (h : KstS Led ps Facts x stored m₀ P pre m nx)
    (k : ∀ c, nx = Led c → Facts c → (∀ p ∈ ps c, m p.1 = some p.2) → (∀ z, z ≠ x → (∀ p ∈ ps c, z ≠ p.1) → stored.contains z = false → m z = m₀ z) → P pre c → G) : G :=
  h.elim fun c h => k c h.1 h.2.1 h.2.2.1 h.2.2.2.1 h.2.2.2.2
/-- a loop over a range of any step that lets one list of ints grow -/
theorem grow_range {l r : Addr} {vs₀ : List Value} {ns₀ : List Int} {k₀ : Nat} {rest : List (Addr × Obj)} {a₀ b₀ c : Int} {t₀ u₀ v₀ : Tok} {n : Nat} {m₀ : Str → Option Value} (stored : List Str) (P : Nat → List Int → Prop)
    (hh : A.handled = none) (hr : IsRange s.heap r a₀ b₀ c t₀ u₀ v₀) (hsmall : Builtin.Range.small a₀ b₀ c = true) (hn : Builtin.Range.rangeSize a₀ b₀ c = (n : Int)) (F : Fr h₀ env.locals s.heap m₀)
    (N : News h₀ env.locals s.heap ((l, listOf vs₀.toArray k₀) :: rest)) (hi : IntsAre vs₀ ns₀) (hp : P 0 ns₀)
    (turn : ∀ (gv : List Value) (gn : List Int) (gk : Nat) (pre : List Int) t (u : Str → Option Value) h tk (I : Addr) (it : Obj), pre.length < n → it.cls = .type "range_iterator" → (∀ p ∈ (l, listOf gv.toArray gk) :: rest, p.1 < I) → IntsAre gv gn → P pre.length gn →
      Fr h₀ env.locals h (fun y => if y = x then some (.int (a₀ + (pre.length : Int) * c) t) else if stored.contains y then u y else m₀ y) → News h₀ env.locals h ((I, it) :: (l, listOf gv.toArray gk) :: rest) →
      wpAny (model prog w) A (execs body env) (InvPostN h₀ env.locals (KstS (fun g : (List Value × List Int × Nat) => (l, listOf g.1.toArray g.2.2) :: rest) (fun _ => []) (fun g => IntsAre g.1 g.2.1) x stored m₀ (fun p g => P p.length g.2.1) (pre ++ [a₀ + (pre.length : Int) * c])) [(I, it)] (l :: rest.map (·.1)) { s with heap := h, toks := tk } Q) E { s with heap := h, toks := tk })
    (done : ∀ (gv : List Value) (gn : List Int) (gk : Nat) (u : Str → Option Value) h tk, IntsAre gv gn → P n gn → Fr h₀ env.locals h (fun y => if y = x then u y else if stored.contains y then u y else m₀ y) → News h₀ env.locals h ((l, listOf gv.toArray gk) :: rest) → Q .next { s with heap := h, toks := tk }) :
    wpAny (model prog w) A (pyIter (.ref r)) (fun it s₂ => LoopAtV prog w A h₀ env x body Q E it s₂) E s := by
  let Led : (List Value × List Int × Nat) → List (Addr × Obj) := fun g => (l, listOf g.1.toArray g.2.2) :: rest
  let ks : List Int := (List.range n).map fun (i : Nat) => a₀ + (i : Int) * c
  have ksl : ks.length = n := by simp [ks]
  refine wpAny_pyIter_range hr hsmall ?_
  have W : Walks prog w A s.heap.objs.size [s.heap.objs.size] [s.heap.objs.size] n (fun i v => i < n ∧ ∃ t, v = .int (a₀ + i * c) t)
      (fun i h => IsRangeIter h s.heap.objs.size (a₀ + (i : Nat) * c) ((n : Int) - (i : Nat)) c) := (Walks.range hh _ a₀ c n).bound
  let I : Addr := s.heap.objs.size
  let J : Nat → (Str → Option Value) → List (Addr × Obj) → Prop := fun i m nx => KstS Led (fun _ => []) (fun g => IntsAre g.1 g.2.1) x stored m₀ (fun p g => P p.length g.2.1) (ks.take i) m nx
  have lt : ∀ g : (List Value × List Int × Nat), ∀ p ∈ Led g, p.1 < I := fun g p hp => by
    rcases List.mem_cons.mp hp with rfl | hp
    · exact Heap.lt_size (N _ (.head _)).1
    · exact Heap.lt_size (N p (.tail _ hp)).1
  refine loopV_at (I := I) (news := Led (vs₀, ns₀, k₀)) (m := m₀) J W ?_ ?_ ?_ (by show IsRangeIter _ _ _ _ _; rw [hn]; simpa using Heap.get?_push_size _ rfl) (F.push _) (fun p hp => ⟨Heap.get?_push_of_some _ (N p hp).1, (N p hp).2⟩)
    ⟨(vs₀, ns₀, k₀), rfl, hi, (fun p hp => nomatch hp), (fun _ _ _ _ => rfl), by simpa using hp⟩ ?_ ?_
  · intro hm
    exact absurd F.ns.lt ((List.mem_singleton.mp hm) ▸ Nat.lt_irrefl _)
  · intro b hb
    rw [List.mem_singleton.mp hb]
    exact next_is_new F
  · intro p hp hI
    exact absurd (Heap.lt_size (N p hp).1) ((List.mem_singleton.mp hI) ▸ Nat.lt_irrefl _)
  · intro i v m₁ nx s₁ own hs₁ hi' hv hK hoff hown hget hall hst F₁ N₁
    obtain ⟨h, tk, rfl⟩ := hs₁
    obtain ⟨t, rfl⟩ := hv.2
    refine kstS_elim hK fun g eg hf' h1 h2 hp' => ?_
    subst eg
    have hk' : ks[i]? = some (a₀ + (i : Int) * c) := by simp [ks, hi']
    have hs : ks.take (i + 1) = ks.take i ++ [a₀ + (i : Int) * c] := by simp [List.take_add_one, hk']
    have hlen : (ks.take i).length = i := by rw [List.length_take, ksl]; lia
    have hp2 : P (ks.take i).length g.2.1 := hp'
    obtain ⟨it, hit, hcls⟩ : ∃ it : Obj, h.get? I = some it ∧ it.cls = .type "range_iterator" := ⟨_, hst, rfl⟩
    have hmem := hall I (List.mem_singleton.mpr rfl) (next_is_new F) _ hit
    have N₂ : News h₀ env.locals h ((I, it) :: Led g) := fun p hp => by
      rcases List.mem_cons.mp hp with rfl | hp
      · exact N₁ _ (List.mem_append_left _ hmem)
      · exact N₁ _ (List.mem_append_right _ hp)
    have := turn g.1 g.2.1 g.2.2 (ks.take i) t m₁ h tk I it (by rw [hlen]; exact hi') hcls (lt g) hf' hp2
    rw [hlen] at this
    refine wpAny_mono (this (kst_fr (ps := []) (fun _ hp => nomatch hp) (fun z hz _ hc => h2 z hz (fun _ hp => nomatch hp) hc) F₁) N₂) (fun f s₂ p => ?_) fun _ _ e => e
    have fin : InvEndN h₀ env.locals (KstS Led (fun _ => []) (fun g => IntsAre g.1 g.2.1) x stored m₀ (fun p g => P p.length g.2.1) (ks.take i ++ [a₀ + (i : Int) * c])) [(I, it)] (l :: rest.map (·.1)) { s with heap := h, toks := tk } s₂ →
        LoopStepU h₀ env.locals [I] own (J (i + 1)) { s with heap := h, toks := tk } .next s₂ := by
      refine fun hE => invEnd_elim hE fun h' tk' m' news' nx' e F' N' hn' ho' ha' hm' => ?_
      refine ⟨rfl, h', tk', m', nx', e, F', fun p hp => ?_, fun p hp hq => ?_, ?_⟩
      · rcases List.mem_append.mp hp with hp | hp
        · have e1 : p.1 = I := List.mem_singleton.mp (hown p hp)
          have e2 : h.get? p.1 = some p.2 := hget p hp
          have e3 : p = (I, it) := Prod.ext e1 (Option.some.inj ((e1 ▸ e2).symm.trans hit))
          rw [e3]
          exact N' _ (ho' _ (List.mem_singleton.mpr rfl))
        · exact N' p (hn' p hp)
      · have h3 : p.1 ∈ nx'.map (·.1) := List.mem_map.mpr ⟨p, hp, rfl⟩
        rw [ha'] at h3
        have h4 : p.1 < I := by
          rcases List.mem_cons.mp h3 with z | z
          · rw [z]; exact lt (vs₀, ns₀, k₀) _ (.head _)
          · obtain ⟨q, hq1, hq2⟩ := List.mem_map.mp z
            rw [← hq2]; exact lt (vs₀, ns₀, k₀) q (.tail _ hq1)
        exact absurd h4 ((List.mem_singleton.mp hq) ▸ Nat.lt_irrefl _)
      · show KstS _ _ _ _ _ _ _ (ks.take (i + 1)) m' nx'
        rw [hs]; exact hm'
    cases f with
    | ret v => exact .ret p
    | brk => exact .brk p
    | next => exact .next (fin p)
    | cont => exact .cont (fin p)
  · intro h tk m₁ nx F₁ N₁ _ hK
    refine kstS_elim hK fun g eg hf' h1 h2 hp' => ?_
    subst eg
    have hl : ks.take n = ks := List.take_of_length_le (Nat.le_of_eq ksl)
    rw [hl] at hp'
    have hp2 : P ks.length g.2.1 := hp'
    rw [ksl] at hp2
    exact done g.1 g.2.1 g.2.2 m₁ h tk hf' hp2 (kst_frOut (ps := []) (fun _ hp => nomatch hp) (fun z hz _ hc => h2 z hz (fun _ hp => nomatch hp) hc) F₁) N₁
end
end Mine
-- Pl
open PySem PySem.W PyProof.Rows
namespace Mine
theorem bnot_bnot (x : Int) : Builtin.bitNot (Builtin.bitNot x) = x := by unfold Builtin.bitNot; lia
theorem bor_nat (a b : Nat) : Builtin.bitOr (a : Int) (b : Int) = ((a ||| b : Nat) : Int) := by
  have e : ∀ c : Nat, decide (0 ≤ Builtin.bitNot (c : Int)) = false := fun c => decide_eq_false (by unfold Builtin.bitNot; lia)
  unfold Builtin.bitOr Builtin.bitAnd
  rw [e a, e b]
  simp only [bnot_bnot, Int.toNat_natCast]
theorem lor_disj (a b k : Nat) (h : b < 2 ^ k) : (2 ^ k * a) ||| b = 2 ^ k * a + b := (Nat.two_pow_add_eq_or_of_lt h a).symm
/-- high bits and low bits -/
theorem bor_hi {x y : Int} (k : Nat) (hx : x % 2 ^ k = 0) (hx0 : 0 ≤ x) (hy0 : 0 ≤ y) (hy : y < 2 ^ k) : Builtin.bitOr x y = x + y := by
  obtain ⟨a, rfl⟩ := Int.eq_ofNat_of_zero_le hx0
  obtain ⟨b, rfl⟩ := Int.eq_ofNat_of_zero_le hy0
  have hb : b < 2 ^ k := by exact_mod_cast hy
  have ha : a % 2 ^ k = 0 := by exact_mod_cast hx
  have e : a = 2 ^ k * (a / 2 ^ k) := by have := Nat.div_add_mod a (2 ^ k); lia
  rw [bor_nat, e, lor_disj _ _ _ hb]
  lia
theorem bor_comm (x y : Int) : Builtin.bitOr x y = Builtin.bitOr y x := by unfold Builtin.bitOr; rw [bitAnd_comm]
theorem bor_lo {x y : Int} (k : Nat) (hx : x % 2 ^ k = 0) (hx0 : 0 ≤ x) (hy0 : 0 ≤ y) (hy : y < 2 ^ k) : Builtin.bitOr y x = x + y := by rw [bor_comm, bor_hi k hx hx0 hy0 hy]
theorem fdiv_pow (x : Int) (k : Nat) : x.fdiv (2 ^ k) = x / 2 ^ k := Int.fdiv_eq_ediv_of_nonneg x (Int.le_of_lt (Int.pow_pos (by decide)))

-- compressed numbers
noncomputable def berHi (n : Int) : List Int := if _h : n ≤ 0 then [] else berHi (n / 128) ++ [n % 128 + 128]
termination_by n.toNat
decreasing_by lia
noncomputable def ber (n : Int) : List Int := berHi (n / 128) ++ [n % 128]
theorem berHi_pos {n : Int} (h : 0 < n) : berHi n = berHi (n / 128) ++ [n % 128 + 128] := by
  rw [berHi, dif_neg (by lia)]
theorem berHi_nonpos {n : Int} (h : n ≤ 0) : berHi n = [] := by rw [berHi, dif_pos h]
theorem berHi_len : ∀ (k : Nat) (n : Int), n < 128 ^ k → (berHi n).length ≤ k
  | 0, n, h => by rw [berHi_nonpos (by lia)]; simp
  | k + 1, n, h => by
    by_cases h0 : n ≤ 0
    · rw [berHi_nonpos h0]; simp
    · rw [berHi_pos (by lia), List.length_append, List.length_singleton]
      have : n / 128 < 128 ^ k := by
        rw [Int.pow_succ] at h
        exact Int.ediv_lt_of_lt_mul (by decide) h
      have := berHi_len k _ this
      lia
theorem ber_len {n : Int} (h : n < 2 ^ 62) : (ber n).length ≤ 10 := by
  unfold ber
  rw [List.length_append, List.length_singleton]
  have := berHi_len 9 (n / 128) (by lia)
  lia

def BerInv (n k : Int) (row : List Int) : Prop := 0 ≤ k ∧ k < 2 ^ 62 ∧ row.length ≤ 10 ∧ berHi k ++ row.reverse = ber n
theorem BerInv.len {n k : Int} {row : List Int} (h : BerInv n k row) : row.length ≤ 10 ∧ BerInv n k row := ⟨h.2.2.1, h⟩
theorem ber_start {n x k : Int} (h0 : 0 ≤ n) (h1 : n < 2 ^ 62) (hx : x = n % 128) (hk : k = n / 128) : BerInv n k [x] := by
  subst hx hk
  exact ⟨by lia, by lia, by simp, rfl⟩
theorem ber_turn {n k x y k' : Int} {row : List Int} (h : BerInv n k row) (hk : 0 < k) (hn : n < 2 ^ 62) (hx : x = k % 128) (hy : y = Builtin.bitOr x 128) (hk' : k' = k / 128) : BerInv n k' (row ++ [y]) := by
  subst hx hy hk'
  obtain ⟨h0, h1, hl, he⟩ := h
  have e2 : Builtin.bitOr (k % 128) 128 = k % 128 + 128 := by rw [bor_lo 7 (by decide) (by decide) (by lia) (by lia)]; lia
  rw [e2]
  rw [berHi_pos hk] at he
  have hl2 := congrArg List.length he
  have hb := ber_len hn
  simp only [List.length_append, List.length_reverse, List.length_cons, List.length_nil] at hl2
  refine ⟨by lia, by lia, ?_, ?_⟩
  · simp only [List.length_append, List.length_cons, List.length_nil]; lia
  · rw [← he]; simp
theorem ber_done {n k : Int} {row : List Int} (h : BerInv n k row) (hk : k ≤ 0) : row.reverse = ber n := by
  have := h.2.2.2
  rwa [berHi_nonpos hk, List.nil_append] at this
theorem cut_tail {a s : Int} {k l : Nat} (ha : 0 ≤ a) (hs : s = (k : Int) + 1) (hl : a + k + 1 ≤ (l : Int)) : min (a + s).toNat l - (a + 1).toNat = k := by
  obtain ⟨m, rfl⟩ := Int.eq_ofNat_of_zero_le ha
  subst hs
  show min (m + (k + 1)) l - (m + 1) = k
  rw [Nat.min_eq_left (Int.ofNat_le.mp (show ((m + (k + 1) : Nat) : Int) ≤ (l : Int) from hl)), Nat.add_sub_add_left]
  rfl
theorem cut_whole {a s : Int} {k l : Nat} (ha : 0 ≤ a) (hs : s = (k : Int) + 1) (hl : a + k + 1 ≤ (l : Int)) : min (a + s).toNat l - a.toNat = k + 1 := by
  obtain ⟨m, rfl⟩ := Int.eq_ofNat_of_zero_le ha
  subst hs
  show min (m + (k + 1)) l - m = k + 1
  rw [Nat.min_eq_left (Int.ofNat_le.mp (show ((m + (k + 1) : Nat) : Int) ≤ (l : Int) from hl)), Nat.add_sub_cancel_left]
theorem cut_one {a : Int} {l : Nat} (ha : 0 ≤ a) (hl : a < (l : Int)) : min (a + 1).toNat l - a.toNat = 1 := cut_whole (k := 0) ha rfl (by rw [Int.natCast_zero, Int.add_zero]; exact hl)
theorem where_nat {l m b x p : Nat} (e1 : l - m = p + 1) (e2 : l - b = x + p) (hb : b < l) : m + 1 = b + x := by lia
end Mine
-- Pu
open PySem PySem.W PyProof.Rows
namespace Mine
-- codes
noncomputable def contB : Nat → Int → List Int
  | 0, _ => []
  | k + 1, n => contB k (n / 64) ++ [n % 64 + 128]
noncomputable def kOf (n : Int) : Nat := if n < 2048 then 1 else if n < 65536 then 2 else if n < 2097152 then 3 else if n < 67108864 then 4 else 5
noncomputable def lead : Nat → Int
  | 1 => 192
  | 2 => 224
  | 3 => 240
  | 4 => 248
  | _ => 252
noncomputable def pow64 (k : Nat) : Int := 64 ^ k
noncomputable def utf (n : Int) : List Int := if n < 128 then [n] else (lead (kOf n) + n / 64 ^ kOf n) :: contB (kOf n) n
theorem contB_len : ∀ (k : Nat) (n : Int), (contB k n).length = k
  | 0, _ => rfl
  | k + 1, n => by rw [contB, List.length_append, contB_len k]; rfl
theorem contB_ge : ∀ (k : Nat) (n : Int), ∀ x ∈ contB k n, 128 ≤ x ∧ x < 192
  | 0, _, x, h => by cases h
  | k + 1, n, x, h => by
    rw [contB] at h
    rcases List.mem_append.mp h with h | h
    · exact contB_ge k _ x h
    · rw [List.mem_singleton.mp h]; lia
/-- the next digit ahead -/
theorem contB_cons : ∀ (k : Nat) (n : Int), contB (k + 1) n = ((n / 64 ^ k) % 64 + 128) :: contB k n
  | 0, n => by simp [contB]
  | k + 1, n => by
    rw [contB, contB_cons k (n / 64), contB, Int.ediv_ediv_of_nonneg (by decide), show (64 : Int) * 64 ^ k = 64 ^ (k + 1) by rw [Int.pow_succ]; lia]
    rfl
def UtfInv (n code room : Int) (row : List Int) : Prop :=
  ∃ j : Nat, j ≤ 5 ∧ code = n / 64 ^ j ∧ room * 2 ^ j = 64 ∧ row.reverse = contB j n ∧ (j = 0 ∨ 2 ^ (5 * j + 1) ≤ n)
theorem UtfInv.len {n code room : Int} {row : List Int} (h : UtfInv n code room row) : row.length ≤ 5 ∧ UtfInv n code room row := by
  refine ⟨?_, h⟩
  obtain ⟨j, hj, _, _, hr, _⟩ := h
  have := congrArg List.length hr
  rw [List.length_reverse, contB_len] at this
  lia
theorem UtfInv.code {n code room : Int} {row : List Int} (h : UtfInv n code room row) (h0 : 0 ≤ n) (h1 : n < 2 ^ 31) : row.length ≤ 5 ∧ 0 ≤ code ∧ code < 2 ^ 31 ∧ 2 ≤ room ∧ room ≤ 64 ∧ UtfInv n code room row := by
  refine ⟨h.len.1, ?_, ?_, ?_, ?_, h⟩ <;> (obtain ⟨j, hj, hc, hr, _, _⟩ := h; have : j = 0 ∨ j = 1 ∨ j = 2 ∨ j = 3 ∨ j = 4 ∨ j = 5 := by lia)
  all_goals (rcases this with rfl | rfl | rfl | rfl | rfl | rfl <;> lia)
theorem utf_start {n : Int} : UtfInv n n 64 [] := ⟨0, by lia, by simp, by decide, by simp [contB], .inl rfl⟩
theorem utf_turn {n code room x y code' room' : Int} {row : List Int} (h : UtfInv n code room row) (h0 : 0 ≤ n) (h1 : n < 2 ^ 31) (hge : room ≤ code) (hx : x = code % 64) (hy : y = Builtin.bitOr x 128) (hc : code' = code / 64)
    (hr0 : room' = room / 2) : UtfInv n code' room' (row ++ [y]) := by
  have e2 : y = code % 64 + 128 := by subst hy hx; rw [bor_lo 6 (by decide) (by decide) (by lia) (by lia)]; lia
  clear hy hx
  subst hc e2
  obtain ⟨j, hj, rfl, hr2, hrow, hm⟩ := h
  have hr : room' * 2 = room := by
    have : j = 0 ∨ j = 1 ∨ j = 2 ∨ j = 3 ∨ j = 4 ∨ j = 5 := by lia
    rcases this with rfl | rfl | rfl | rfl | rfl | rfl <;> lia
  refine ⟨j + 1, ?_, ?_, ?_, ?_, .inr ?_⟩
  · have : j = 0 ∨ j = 1 ∨ j = 2 ∨ j = 3 ∨ j = 4 ∨ j = 5 := by lia
    rcases this with rfl | rfl | rfl | rfl | rfl | rfl <;> lia
  · rw [Int.ediv_ediv_of_nonneg (Int.le_of_lt (Int.pow_pos (by decide))), Int.pow_succ]
  · rw [Int.pow_succ, ← hr2, ← hr, Int.mul_assoc, Int.mul_comm 2]
  · rw [List.reverse_append, hrow, contB_cons]; rfl
  · have : j = 0 ∨ j = 1 ∨ j = 2 ∨ j = 3 ∨ j = 4 ∨ j = 5 := by lia
    rcases this with rfl | rfl | rfl | rfl | rfl | rfl <;> lia
theorem utf_done {n code room a b c : Int} {row : List Int} (h : UtfInv n code room row) (h0 : 128 ≤ n) (h1 : n < 2 ^ 31) (hlt : code < room) (ha : a = 65280 / 2 ^ (((row.length : Int) + 1).toNat)) (hb : b = a % 256) (hc : c = Builtin.bitOr b code) :
    (row ++ [c]).reverse = utf n := by
  obtain ⟨j, hj, hcode, hr2, hrow, hm⟩ := h
  have hl : row.length = j := by
    have := congrArg List.length hrow
    rwa [List.length_reverse, contB_len] at this
  rw [hl] at ha
  rw [List.reverse_append, hrow]
  clear hrow hl
  have hk : kOf n = j := by
    unfold kOf
    have : j = 0 ∨ j = 1 ∨ j = 2 ∨ j = 3 ∨ j = 4 ∨ j = 5 := by lia
    rcases this with rfl | rfl | rfl | rfl | rfl | rfl <;> (repeat' split) <;> lia
  unfold utf
  rw [if_neg (by lia), hk, ← hcode]
  have hc2 : c = lead j + code := by
    subst hc hb ha
    have : j = 0 ∨ j = 1 ∨ j = 2 ∨ j = 3 ∨ j = 4 ∨ j = 5 := by lia
    rcases this with rfl | rfl | rfl | rfl | rfl | rfl
    · lia
    · rw [show (65280 / 2 ^ (((1 : Nat) : Int) + 1).toNat % 256 : Int) = 192 by decide, bor_hi 6 (by decide) (by decide) (by lia) (by lia)]; rfl
    · rw [show (65280 / 2 ^ (((2 : Nat) : Int) + 1).toNat % 256 : Int) = 224 by decide, bor_hi 5 (by decide) (by decide) (by lia) (by lia)]; rfl
    · rw [show (65280 / 2 ^ (((3 : Nat) : Int) + 1).toNat % 256 : Int) = 240 by decide, bor_hi 4 (by decide) (by decide) (by lia) (by lia)]; rfl
    · rw [show (65280 / 2 ^ (((4 : Nat) : Int) + 1).toNat % 256 : Int) = 248 by decide, bor_hi 3 (by decide) (by decide) (by lia) (by lia)]; rfl
    · rw [show (65280 / 2 ^ (((5 : Nat) : Int) + 1).toNat % 256 : Int) = 252 by decide, bor_hi 2 (by decide) (by decide) (by lia) (by lia)]; rfl
  rw [hc2]
  rfl
end Mine
-- Pb
open PySem PySem.W PyProof.Rows
namespace Mine
theorem concat_of_ne {α : Type} {l : List α} (h : l ≠ []) : ∃ t x, l = t ++ [x] := ⟨l.dropLast, l.getLast h, (List.dropLast_concat_getLast h).symm⟩
theorem berHi_top : ∀ (k : Nat) (n : Int), n < 128 ^ k → n < 128 ^ (berHi n).length
  | 0, n, h => by rw [berHi_nonpos (by lia)]; simpa using h
  | k + 1, n, h => by
    by_cases h0 : n ≤ 0
    · rw [berHi_nonpos h0]; simp; lia
    · rw [berHi_pos (by lia), List.length_append, List.length_singleton]
      have h1 : n / 128 < 128 ^ k := by
        rw [Int.pow_succ] at h
        exact Int.ediv_lt_of_lt_mul (by decide) h
      have := berHi_top k _ h1
      rw [Int.pow_succ]
      exact Int.lt_mul_of_ediv_lt (by decide) this
theorem ber_top {n : Int} (h : n < 2 ^ 62) : n < 128 ^ (ber n).length := by
  unfold ber
  rw [List.length_append, List.length_singleton, Int.pow_succ]
  exact Int.lt_mul_of_ediv_lt (by decide) (berHi_top 9 _ (by lia))
theorem berHi_at : ∀ (r : Nat) (n : Int) (done rest : List Int) (x : Int), rest.length = r → berHi n = done ++ x :: rest → x = n / 128 ^ r % 128 + 128
  | 0, n, done, rest, x, hr, h => by
    obtain rfl := List.eq_nil_of_length_eq_zero hr
    by_cases h0 : n ≤ 0
    · rw [berHi_nonpos h0] at h; simp at h
    · rw [berHi_pos (by lia)] at h
      have := (List.append_inj' h rfl).2
      simp at this ⊢
      exact this.symm
  | r + 1, n, done, rest, x, hr, h => by
    obtain ⟨t, y, rfl⟩ := concat_of_ne (l := rest) (by intro e; subst e; simp at hr)
    have hr' : t.length = r := by simpa using hr
    by_cases h0 : n ≤ 0
    · rw [berHi_nonpos h0] at h; simp at h
    · rw [berHi_pos (by lia), ← List.cons_append, ← List.append_assoc] at h
      have := berHi_at r (n / 128) done t x hr' (List.append_inj' h rfl).1
      rw [this, Int.ediv_ediv_of_nonneg (by decide), show (128 : Int) * 128 ^ r = 128 ^ (r + 1) by rw [Int.pow_succ]; lia]
theorem ber_at {n x : Int} {done rest : List Int} (h : ber n = done ++ x :: rest) : (rest = [] ∧ x = n % 128) ∨ (rest ≠ [] ∧ x = n / 128 ^ rest.length % 128 + 128) := by
  unfold ber at h
  by_cases hr : rest = []
  · subst hr
    exact .inl ⟨rfl, by have := (List.append_inj' h rfl).2; simpa using this.symm⟩
  · refine .inr ⟨hr, ?_⟩
    obtain ⟨t, y, rfl⟩ := concat_of_ne hr
    rw [← List.cons_append, ← List.append_assoc] at h
    have := berHi_at t.length (n / 128) done t x rfl (List.append_inj' h rfl).1
    rw [this, Int.ediv_ediv_of_nonneg (by decide), List.length_append, List.length_singleton, show (128 : Int) * 128 ^ t.length = 128 ^ (t.length + 1) by rw [Int.pow_succ]; lia]
theorem getD_drop {ns pre post : List Int} {k j : Nat} {x d : Int} (h : ns.drop k = pre ++ x :: post) (hj : j = k + pre.length) : ns.getD j d = x := by
  subst hj
  have e : (ns.drop k).getD pre.length d = x := by rw [h]; simp
  rw [← e]
  simp
theorem len_drop {ns tl : List Int} {k : Nat} (h : ns.drop k = tl) (hne : tl ≠ []) : ns.length = k + tl.length := by
  have := congrArg List.length h
  rw [List.length_drop] at this
  have : 0 < tl.length := List.length_pos_iff.mpr hne
  lia

def RberInv (n a₀ found a : Int) : Prop := ∃ done rest, ber n = done ++ rest ∧ rest ≠ [] ∧ a = a₀ + (done.length : Int) ∧ found = n / 128 ^ rest.length
section
variable {n a₀ found a : Int} {ns post : List Int}
theorem ber_ne (n : Int) : ber n ≠ [] := by unfold ber; simp
theorem RberInv.bounds (h : RberInv n a₀ found a) (hd : ns.drop a₀.toNat = ber n ++ post) (ha : 0 ≤ a₀) (h0 : 0 ≤ n) (h1 : n < 2 ^ 62) : 0 ≤ a ∧ a < ns.length ∧ 0 ≤ found ∧ found < 2 ^ 62 ∧ RberInv n a₀ found a := by
  refine ⟨?_, ?_, ?_, ?_, h⟩ <;> obtain ⟨done, rest, he, hr, rfl, rfl⟩ := h
  · lia
  · have := len_drop hd (by simp [ber_ne])
    rw [he] at this
    have h2 : 0 < rest.length := List.length_pos_iff.mpr hr
    simp only [List.length_append] at this
    lia
  · exact Int.ediv_nonneg h0 (Int.le_of_lt (Int.pow_pos (by decide)))
  · have := Int.ediv_le_self (128 ^ rest.length) h0
    lia
theorem rber_start (h0 : 0 ≤ n) (h1 : n < 2 ^ 62) : RberInv n a₀ 0 a₀ := ⟨[], ber n, rfl, ber_ne n, by simp, (Int.ediv_eq_zero_of_lt h0 (ber_top h1)).symm⟩
theorem rber_step {x f2 d found' : Int} (h : RberInv n a₀ found a) (hd : ns.drop a₀.toNat = ber n ++ post) (ha : 0 ≤ a₀) (h0 : 0 ≤ n) (hx : x = ns.getD a.toNat 0) (hf : f2 = found * 128) (hdd : d = x % 128) (hf' : found' = Builtin.bitOr f2 d) :
    (x < 128 ∧ found' = n ∧ a + 1 = a₀ + ((ber n).length : Int)) ∨ (128 ≤ x ∧ RberInv n a₀ found' (a + 1)) := by
  obtain ⟨done, rest, he, hr, rfl, rfl⟩ := h
  cases rest with
  | nil => exact absurd rfl hr
  | cons y rest =>
    have hxy : x = y := by
      rw [hx]
      refine getD_drop (pre := done) (post := rest ++ post) (k := a₀.toNat) (by rw [hd, he]; simp) (by lia)
    clear hx
    subst hxy
    have hnn : 0 ≤ n / 128 ^ (rest.length + 1) := Int.ediv_nonneg h0 (Int.le_of_lt (Int.pow_pos (by decide)))
    have hff : found' = n / 128 ^ (rest.length + 1) * 128 + x % 128 := by
      subst hf' hf hdd
      rw [bor_hi 7 (by lia) (by simp only [List.length_cons]; lia) (by lia) (by lia)]
      rfl
    have hq : n / 128 ^ (rest.length + 1) = n / 128 ^ rest.length / 128 := by
      rw [Int.pow_succ, ← Int.ediv_ediv_of_nonneg (Int.le_of_lt (Int.pow_pos (by decide)))]
    rw [hq] at hff
    rcases ber_at he with ⟨rfl, hx⟩ | ⟨hne, hx⟩
    · refine .inl ⟨by lia, ?_, ?_⟩
      · rw [hff, hx]; simp; lia
      · rw [he]; simp; lia
    · refine .inr ⟨by lia, done ++ [x], rest, by rw [he]; simp, hne, by simp; lia, by rw [hff, hx]; lia⟩
end
end Mine
-- Pc
open PySem PySem.W PyProof.Rows
namespace Mine
theorem kOf_range (n : Int) : 1 ≤ kOf n ∧ kOf n ≤ 5 := by unfold kOf; (repeat' split) <;> lia
theorem kOf_q {n : Int} (h0 : 128 ≤ n) (h1 : n < 2 ^ 31) : 0 ≤ n / 64 ^ kOf n ∧ n / 64 ^ kOf n < 2 ^ (6 - kOf n) := by
  unfold kOf; (repeat' split) <;> lia
theorem utf_len {n : Int} (h0 : 128 ≤ n) : (utf n).length = kOf n + 1 := by unfold utf; rw [if_neg (by lia)]; simp [contB_len]
theorem contB_at : ∀ (k : Nat) (n : Int) (pre post : List Int) (x : Int), contB k n = pre ++ x :: post → x = n / 64 ^ post.length % 64 + 128
  | 0, n, pre, post, x, h => by simp [contB] at h
  | k + 1, n, pre, post, x, h => by
    rw [contB] at h
    by_cases hp : post = []
    · subst hp
      have := (List.append_inj' h rfl).2
      simp at this ⊢
      exact this.symm
    · obtain ⟨t, y, rfl⟩ := concat_of_ne hp
      rw [← List.cons_append, ← List.append_assoc] at h
      have := contB_at k (n / 64) pre t x (List.append_inj' h rfl).1
      rw [this, Int.ediv_ediv_of_nonneg (by decide), List.length_append, List.length_singleton, show (64 : Int) * 64 ^ t.length = 64 ^ (t.length + 1) by rw [Int.pow_succ]; lia]
def CodeAt (ns : List Int) (a₀ n : Int) (post : List Int) : Prop := ns.drop a₀.toNat = utf n ++ post ∧ 0 ≤ a₀ ∧ 128 ≤ n ∧ n < 2 ^ 31
section
variable {ns post : List Int} {a₀ n : Int}
theorem CodeAt.utf (h : CodeAt ns a₀ n post) : ns.drop a₀.toNat = (lead (kOf n) + n / 64 ^ kOf n) :: (contB (kOf n) n ++ post) := by
  obtain ⟨h, _, h0, _⟩ := h
  rw [h]; unfold Mine.utf; rw [if_neg (by lia)]; rfl
theorem CodeAt.first (h : CodeAt ns a₀ n post) : ns.getD a₀.toNat 0 = lead (kOf n) + n / 64 ^ kOf n := getD_drop (pre := []) h.utf (by simp)
theorem CodeAt.len (h : CodeAt ns a₀ n post) : a₀ + kOf n + 1 ≤ ns.length := by
  have := len_drop h.utf (by simp)
  have := h.2.1
  simp only [List.length_cons, List.length_append, contB_len] at *
  lia
theorem CodeAt.bound (h : CodeAt ns a₀ n post) : 192 ≤ ns.getD a₀.toNat 0 ∧ ns.getD a₀.toNat 0 < 254 := by
  rw [h.first]
  have hq := kOf_q h.2.2.1 h.2.2.2
  have hk := kOf_range n
  generalize n / 64 ^ kOf n = q at *
  generalize kOf n = k at *
  have : k = 1 ∨ k = 2 ∨ k = 3 ∨ k = 4 ∨ k = 5 := by lia
  rcases this with rfl | rfl | rfl | rfl | rfl <;> simp only [lead] <;> lia
theorem CodeAt.bit (h : CodeAt ns a₀ n post) {size x y : Int} (hs : 2 ≤ size) (hs2 : size ≤ kOf n + 1) (hs7 : size < 7) (hx : x = ns.getD a₀.toNat 0 / 2 ^ (7 - size).toNat) (hy : y = x % 2) : (y = 0 ∧ size = kOf n + 1) ∨ (y ≠ 0 ∧ size + 1 ≤ kOf n + 1) := by
  rw [h.first] at hx
  have hq := kOf_q h.2.2.1 h.2.2.2
  have hk := kOf_range n
  generalize n / 64 ^ kOf n = q at *
  generalize kOf n = k at *
  have hk' : k = 1 ∨ k = 2 ∨ k = 3 ∨ k = 4 ∨ k = 5 := by lia
  have hs' : size = 2 ∨ size = 3 ∨ size = 4 ∨ size = 5 ∨ size = 6 := by lia
  rcases hk' with rfl | rfl | rfl | rfl | rfl <;> rcases hs' with rfl | rfl | rfl | rfl | rfl <;> simp only [lead, Int.reduceSub, Int.reduceToNat, Int.reducePow, Nat.reduceSub] at hx hq <;> lia
theorem CodeAt.size (h : CodeAt ns a₀ n post) {size x y : Int} (hx : x = ns.getD a₀.toNat 0 / 2 ^ (7 - size).toNat) (hy : y = x % 2) (h0 : y = 0) (hs7 : size < 7) (hs : 2 ≤ size) (hs2 : size ≤ kOf n + 1) : size = kOf n + 1 := by
  rcases h.bit hs hs2 hs7 hx hy with ⟨_, e⟩ | ⟨e, _⟩
  · exact e
  · exact absurd h0 e
theorem CodeAt.more (h : CodeAt ns a₀ n post) {size x y : Int} (hx : x = ns.getD a₀.toNat 0 / 2 ^ (7 - size).toNat) (hy : y = x % 2) (h0 : ¬ y = 0) (hs7 : size < 7) (hs : 2 ≤ size) (hs2 : size ≤ kOf n + 1) : size + 1 ≤ kOf n + 1 := by
  rcases h.bit hs hs2 hs7 hx hy with ⟨e, _⟩ | ⟨_, e⟩
  · exact absurd e h0
  · exact e
/-- the digits read so far -/
def CodeInv (n : Int) (k : Nat) (pre : List Int) (code : Int) : Prop := pre.length ≤ k ∧ code = n / 64 ^ (k - pre.length)
theorem CodeInv.bounds {k : Nat} {pre : List Int} {code : Int} (h : CodeInv n k pre code) (h0 : 0 ≤ n) (h1 : n < 2 ^ 31) : 0 ≤ code ∧ code < 2 ^ 31 ∧ CodeInv n k pre code := by
  refine ⟨?_, ?_, h⟩ <;> obtain ⟨_, rfl⟩ := h
  · exact Int.ediv_nonneg h0 (Int.le_of_lt (Int.pow_pos (by decide)))
  · have := Int.ediv_le_self (64 ^ (k - pre.length)) h0
    lia
theorem CodeAt.start (h : CodeAt ns a₀ n post) {size z c : Int} (hs : size = kOf n + 1) (hz : z = 1 * 2 ^ (7 - size).toNat) (hc : c = Builtin.bitAnd (ns.getD a₀.toNat 0) (z - 1)) : CodeInv n (kOf n) [] c := by
  refine ⟨by simp, ?_⟩
  rw [hc, hz, Int.one_mul, kbt_mask, h.first, hs]
  have hq := kOf_q h.2.2.1 h.2.2.2
  have hk := kOf_range n
  rw [List.length_nil, Nat.sub_zero]
  generalize n / 64 ^ kOf n = q at *
  generalize kOf n = k at *
  have : k = 1 ∨ k = 2 ∨ k = 3 ∨ k = 4 ∨ k = 5 := by lia
  rcases this with rfl | rfl | rfl | rfl | rfl
  · simp only [lead, show (7 - (((1 : Nat) : Int) + 1)).toNat = 5 by decide, Int.reducePow, Nat.reduceSub] at *; lia
  · simp only [lead, show (7 - (((2 : Nat) : Int) + 1)).toNat = 4 by decide, Int.reducePow, Nat.reduceSub] at *; lia
  · simp only [lead, show (7 - (((3 : Nat) : Int) + 1)).toNat = 3 by decide, Int.reducePow, Nat.reduceSub] at *; lia
  · simp only [lead, show (7 - (((4 : Nat) : Int) + 1)).toNat = 2 by decide, Int.reducePow, Nat.reduceSub] at *; lia
  · simp only [lead, show (7 - (((5 : Nat) : Int) + 1)).toNat = 1 by decide, Int.reducePow, Nat.reduceSub] at *; lia
theorem CodeAt.tail (h : CodeAt ns a₀ n post) {size : Int} (hs : size = kOf n + 1) : List.take (min (a₀ + size).toNat ns.length - (a₀ + 1).toNat) (List.drop (a₀ + 1).toNat ns) = contB (kOf n) n := by
  have h1 := h.utf
  have e : ns.drop (a₀ + 1).toNat = contB (kOf n) n ++ post := by
    rw [Int.toNat_add h.2.1 (by decide), ← List.drop_drop, h1]; rfl
  rw [e, cut_tail h.2.1 hs h.len]
  exact List.take_left' (contB_len _ _)
theorem CodeAt.whole (h : CodeAt ns a₀ n post) {size : Int} (hs : size = kOf n + 1) : List.take (min (a₀ + size).toNat ns.length - a₀.toNat) (List.drop a₀.toNat ns) = Mine.utf n := by
  rw [h.1, cut_whole h.2.1 hs h.len]
  exact List.take_left' (utf_len h.2.2.1)
theorem CodeAt.digit (h : CodeAt ns a₀ n post) {size x y : Int} {pre tl : List Int} (hs : size = kOf n + 1) (he : List.take (min (a₀ + size).toNat ns.length - (a₀ + 1).toNat) (List.drop (a₀ + 1).toNat ns) = pre ++ x :: tl) (hy : y = x / 64) : y = 2 := by
  rw [h.tail hs] at he
  have := contB_ge (kOf n) n x (by rw [he]; simp)
  lia
theorem CodeAt.turn (h : CodeAt ns a₀ n post) {size x f d code code' : Int} {pre tl : List Int} (hi : CodeInv n (kOf n) pre code) (hs : size = kOf n + 1) (he : List.take (min (a₀ + size).toNat ns.length - (a₀ + 1).toNat) (List.drop (a₀ + 1).toNat ns) = pre ++ x :: tl)
    (hf : f = code * 64) (hd : d = x % 64) (hc : code' = Builtin.bitOr f d) : CodeInv n (kOf n) (pre ++ [x]) code' := by
  rw [h.tail hs] at he
  have hx := contB_at _ _ _ _ _ he
  have hl := congrArg List.length he
  rw [contB_len] at hl
  simp only [List.length_append, List.length_cons] at hl
  obtain ⟨hp, rfl⟩ := hi
  refine ⟨by simp; lia, ?_⟩
  have hnn : 0 ≤ n / 64 ^ (kOf n - pre.length) := Int.ediv_nonneg (by have := h.2.2.1; lia) (Int.le_of_lt (Int.pow_pos (by decide)))
  subst hc hf hd
  rw [bor_hi 6 (by lia) (by lia) (by lia) (by lia), hx, List.length_append, List.length_singleton, show kOf n - pre.length = tl.length + 1 by lia, show kOf n - (pre.length + 1) = tl.length by lia,
    Int.pow_succ, ← Int.ediv_ediv_of_nonneg (Int.le_of_lt (Int.pow_pos (by decide)))]
  lia
theorem CodeAt.done (h : CodeAt ns a₀ n post) {size code : Int} (hs : size = kOf n + 1) (hi : CodeInv n (kOf n) (List.take (min (a₀ + size).toNat ns.length - (a₀ + 1).toNat) (List.drop (a₀ + 1).toNat ns)) code) : code = n := by
  rw [h.tail hs] at hi
  rw [hi.2, contB_len]
  simp
end
end Mine
-- Pf
open PySem PySem.W PyProof.Rows
namespace Mine
noncomputable def flat (enc : Int → List Int) (nums : List Int) : List Int := (nums.map enc).flatten
section
variable {enc : Int → List Int} {nums found : List Int} {i : Int}
theorem flat_nil : flat enc [] = [] := rfl
theorem flat_cons (n : Int) (r : List Int) : flat enc (n :: r) = enc n ++ flat enc r := rfl
theorem flat_append (a b : List Int) : flat enc (a ++ b) = flat enc a ++ flat enc b := by simp [flat]
def ReadInv (enc : Int → List Int) (nums : List Int) (i : Int) (found : List Int) : Prop := ∃ rest, nums = found ++ rest ∧ i = ((flat enc found).length : Int)
theorem ReadInv.start : ReadInv enc nums 0 [] := ⟨nums, rfl, rfl⟩
theorem ReadInv.bounds (h : ReadInv enc nums i found) : 0 ≤ i ∧ i ≤ ((flat enc nums).length : Int) ∧ found.length ≤ nums.length ∧ ReadInv enc nums i found := by
  refine ⟨?_, ?_, ?_, h⟩ <;> obtain ⟨rest, rfl, rfl⟩ := h
  · lia
  · rw [flat_append, List.length_append]; lia
  · rw [List.length_append]; lia
theorem ReadInv.head (h : ReadInv enc nums i found) (hlt : i < ((flat enc nums).length : Int)) : ∃ n post, n ∈ nums ∧ (flat enc nums).drop i.toNat = enc n ++ post ∧ ReadInv enc nums (i + (enc n).length) (found ++ [n]) := by
  obtain ⟨rest, rfl, rfl⟩ := h
  cases rest with
  | nil => rw [List.append_nil] at hlt; lia
  | cons n rest =>
    refine ⟨n, flat enc rest, by simp, ?_, rest, by simp, ?_⟩
    · rw [flat_append, flat_cons, Int.toNat_natCast, List.drop_left]
    · rw [flat_append, List.length_append, flat_cons, flat_nil, List.append_nil]; lia
theorem ReadInv.done (h : ReadInv enc nums i found) (hne : ∀ n, enc n ≠ []) (hge : ¬ i < ((flat enc nums).length : Int)) : found = nums := by
  obtain ⟨rest, rfl, rfl⟩ := h
  cases rest with
  | nil => simp
  | cons n rest =>
    exfalso
    rw [flat_append, List.length_append, flat_cons, List.length_append] at hge
    have : 0 < (enc n).length := List.length_pos_iff.mpr (hne n)
    lia
end
theorem utf_ne (n : Int) : utf n ≠ [] := by unfold utf; split <;> simp
theorem utf_pos (n : Int) : 0 < (utf n).length := List.length_pos_iff.mpr (utf_ne n)
theorem ber_pos (n : Int) : 0 < (ber n).length := List.length_pos_iff.mpr (ber_ne n)
end Mine
-- Pv
open PySem PySem.W PyProof.Rows
namespace Mine
-- lines of signs
noncomputable def uuS (x : Int) : Int := if x = 0 then 96 else 32 + x
noncomputable def uu3 (a b c : Int) : List Int := [uuS (a / 4), uuS (a % 4 * 16 + b / 16), uuS (b % 16 * 4 + c / 64), uuS (c % 64)]
noncomputable def uuBody : List Int → List Int
  | [] => []
  | [a] => uu3 a 0 0
  | [a, b] => uu3 a b 0
  | a :: b :: c :: r => uu3 a b c ++ uuBody r
noncomputable def uuLine (p : List Int) : List Int := uuS p.length :: uuBody p ++ [10]
theorem uuBody_len : ∀ p : List Int, (uuBody p).length ≤ 4 * p.length
  | [] => by simp [uuBody]
  | [a] => by simp [uuBody, uu3]
  | [a, b] => by simp [uuBody, uu3]
  | a :: b :: c :: r => by
    have := uuBody_len r
    simp only [uuBody, uu3, List.length_append, List.length_cons, List.length_nil]
    lia
noncomputable def three (l : List Int) : List Int := (l.take 3 ++ [0, 0]).take 3
theorem uuBody_step : ∀ l : List Int, l ≠ [] → ∃ a b c, three l = [a, b, c] ∧ uuBody l = uu3 a b c ++ uuBody (l.drop 3)
  | [], h => absurd rfl h
  | [a], _ => ⟨a, 0, 0, rfl, by simp [uuBody]⟩
  | [a, b], _ => ⟨a, b, 0, rfl, by simp [uuBody]⟩
  | a :: b :: c :: r, _ => ⟨a, b, c, rfl, by simp [uuBody]⟩
def LineInv (ns : List Int) (i : Nat) (row : List Int) : Prop := row ++ uuBody (ns.drop (3 * i)) = uuS ns.length :: uuBody ns
section
variable {ns row : List Int} {i : Nat}
theorem LineInv.start : LineInv ns 0 [uuS ns.length] := rfl
theorem LineInv.len (h : LineInv ns i row) : row.length ≤ 1 + 4 * ns.length := by
  have := congrArg List.length h
  have hb := uuBody_len ns
  simp only [List.length_append, List.length_cons] at this
  lia
theorem LineInv.done (h : LineInv ns ((ns.length + 2) / 3) row) : row ++ [10] = uuLine ns := by
  unfold LineInv at h
  rw [List.drop_of_length_le (by lia), uuBody, List.append_nil] at h
  rw [h]; rfl
theorem LineInv.turn (h : LineInv ns i row) (hi : 3 * i < ns.length) {a b c : Int} (h3 : three (ns.drop (3 * i)) = [a, b, c]) : LineInv ns (i + 1) (row ++ uu3 a b c) := by
  obtain ⟨a', b', c', e1, e2⟩ := uuBody_step (ns.drop (3 * i)) (by intro e; have := congrArg List.length e; simp at this; lia)
  rw [h3] at e1
  cases e1
  unfold LineInv at h ⊢
  rw [e2, List.drop_drop] at h
  rw [← h, List.append_assoc]
  rfl
theorem LineInv.both (h : LineInv ns i row) : row.length ≤ 1 + 4 * ns.length ∧ LineInv ns i row := ⟨h.len, h⟩
theorem three_at (hb : ∀ x ∈ ns, 0 ≤ x ∧ x < 256) (hi : i < (ns.length + 2) / 3) : ∃ a b c, List.take 3 (List.take (min (0 + (i : Int) * 3 + 3).toNat ns.length - (0 + (i : Int) * 3).toNat) (List.drop (0 + (i : Int) * 3).toNat ns) ++ [0, 0]) = [a, b, c] ∧
    three (ns.drop (3 * i)) = [a, b, c] ∧ (0 ≤ a ∧ a < 256) ∧ (0 ≤ b ∧ b < 256) ∧ 0 ≤ c ∧ c < 256 := by
  obtain ⟨a, b, c, e1, _⟩ := uuBody_step (ns.drop (3 * i)) (by intro e; have := congrArg List.length e; simp at this; lia)
  have e2 : (0 + (i : Int) * 3).toNat = 3 * i := by lia
  have e3 : (0 + (i : Int) * 3 + 3).toNat = 3 * i + 3 := by lia
  refine ⟨a, b, c, ?_, e1, ?_⟩
  · rw [e2, e3, ← e1]
    unfold three
    congr 2
    rcases Nat.le_total (3 * i + 3) ns.length with h | h
    · rw [Nat.min_eq_left h, show 3 * i + 3 - 3 * i = 3 by lia]
    · rw [Nat.min_eq_right h, List.take_of_length_le (by simp), List.take_of_length_le (by simp; lia)]
  · have all : ∀ x ∈ three (ns.drop (3 * i)), 0 ≤ x ∧ x < 256 := by
      intro x hx
      have h1 := List.mem_of_mem_take hx
      rcases List.mem_append.mp h1 with h2 | h2
      · exact hb x (List.mem_of_mem_drop (List.mem_of_mem_take h2))
      · simp at h2; lia
    rw [e1] at all
    exact ⟨all a (by simp), all b (by simp), all c (by simp)⟩
theorem uh {a b c : Int} (hc : 0 ≤ c ∧ c < 256) : (a * 65536 + b * 256 + c) / 256 = a * 256 + b := by
  rw [show a * 65536 + b * 256 + c = c + 256 * (a * 256 + b) by lia, Int.add_mul_ediv_left _ _ (by decide), Int.ediv_eq_zero_of_lt hc.1 hc.2, Int.zero_add]
theorem uq2 {a b c : Int} (hb : 0 ≤ b ∧ b < 256) (hc : 0 ≤ c ∧ c < 256) : (a * 65536 + b * 256 + c) / 4096 % 64 = a % 4 * 16 + b / 16 := by
  rw [show (4096 : Int) = 256 * 16 from rfl, ← Int.ediv_ediv_of_nonneg (by decide), uh hc]; lia
theorem uq3 {a b c : Int} (hc : 0 ≤ c ∧ c < 256) : (a * 65536 + b * 256 + c) / 64 % 64 = b % 16 * 4 + c / 64 := by
  rw [show a * 65536 + b * 256 + c = c + 64 * (a * 1024 + b * 4) by lia, Int.add_mul_ediv_left _ _ (by decide)]; lia
theorem uq1 {a b c : Int} (ha : 0 ≤ a ∧ a < 256) (hb : 0 ≤ b ∧ b < 256) (hc : 0 ≤ c ∧ c < 256) : (a * 65536 + b * 256 + c) / 262144 % 64 = a / 4 := by
  rw [show (262144 : Int) = 256 * 1024 from rfl, ← Int.ediv_ediv_of_nonneg (by decide), uh hc]; lia
theorem uq4 {a b c : Int} : (a * 65536 + b * 256 + c) / 1 % 64 = c % 64 := by
  rw [Int.ediv_one, show a * 65536 + b * 256 + c = c + 64 * (a * 1024 + b * 4) by lia, Int.add_mul_emod_self_left]
theorem LineInv.turn4 (h : LineInv ns i row) (hi : i < (ns.length + 2) / 3) {a b c g bits x1 x2 x3 x4 o1 o2 o3 o4 : Int} (h3 : three (ns.drop (3 * i)) = [a, b, c]) (ha : 0 ≤ a ∧ a < 256) (hb : 0 ≤ b ∧ b < 256) (hc : 0 ≤ c ∧ c < 256)
    (hg : g = Builtin.bitOr (a * 65536) (b * 256)) (hbits : bits = Builtin.bitOr g c)
    (hx1 : x1 = bits / 262144) (ho1 : o1 = x1 % 64) (hx2 : x2 = bits / 4096) (ho2 : o2 = x2 % 64) (hx3 : x3 = bits / 64) (ho3 : o3 = x3 % 64) (hx4 : x4 = bits / 1) (ho4 : o4 = x4 % 64) :
    LineInv ns (i + 1) (row ++ [uuS o1] ++ [uuS o2] ++ [uuS o3] ++ [uuS o4]) := by
  have e1 : bits = a * 65536 + b * 256 + c := by
    subst hbits hg
    rw [bor_hi (x := a * 65536) (y := b * 256) 16 (by lia) (by lia) (by lia) (by lia), bor_hi 8 (by lia) (by lia) (by lia) (by lia)]
  have := h.turn (by lia) h3
  have e2 : uu3 a b c = [uuS o1] ++ [uuS o2] ++ [uuS o3] ++ [uuS o4] := by
    unfold uu3
    rw [ho1, hx1, ho2, hx2, ho3, hx3, ho4, hx4, e1, uq1 ha hb hc, uq2 hb hc, uq3 hc, uq4]
    rfl
  rw [e2] at this
  simpa using this
theorem LineInv.turn5 (h : LineInv ns i row) (hi : i < (ns.length + 2) / 3) {j : Nat} (hj : j = i + 1) {a b c g bits x1 x2 x3 x4 o1 o2 o3 o4 : Int} (h3 : three (ns.drop (3 * i)) = [a, b, c]) (ha : 0 ≤ a ∧ a < 256) (hb : 0 ≤ b ∧ b < 256) (hc : 0 ≤ c ∧ c < 256)
    (hg : g = Builtin.bitOr (a * 65536) (b * 256)) (hbits : bits = Builtin.bitOr g c)
    (hx1 : x1 = bits / 262144) (ho1 : o1 = x1 % 64) (hx2 : x2 = bits / 4096) (ho2 : o2 = x2 % 64) (hx3 : x3 = bits / 64) (ho3 : o3 = x3 % 64) (hx4 : x4 = bits / 1) (ho4 : o4 = x4 % 64) :
    (row ++ [uuS o1] ++ [uuS o2] ++ [uuS o3] ++ [uuS o4]).length ≤ 1 + 4 * ns.length ∧ LineInv ns j (row ++ [uuS o1] ++ [uuS o2] ++ [uuS o3] ++ [uuS o4]) := by
  subst hj
  exact LineInv.both (LineInv.turn4 h hi h3 ha hb hc hg hbits hx1 ho1 hx2 ho2 hx3 ho3 hx4 ho4)
end
end Mine
-- Pw
open PySem PySem.W PyProof.Rows
namespace Mine
noncomputable def isU (ns : List Int) (a : Int) : Bool := decide (a < (ns.length : Int) ∧ 32 ≤ ns.getD a.toNat 0 ∧ ns.getD a.toNat 0 < 97)
noncomputable def sixU (ns : List Int) (a : Int) : Int := if isU ns a = true then (ns.getD a.toNat 0 - 32) % 64 else 0
theorem uuS_bounds {x : Int} (h : 0 ≤ x) (h2 : x < 64) : 32 < uuS x ∧ uuS x ≤ 96 ∧ (uuS x - 32) % 64 = x := by
  unfold uuS; split <;> lia
theorem getD_at {ns pre post : List Int} {x i : Int} (hi : 0 ≤ i) (h : ns.drop i.toNat = pre ++ x :: post) (j : Int) (hj : j = i + pre.length) : ns.getD j.toNat 0 = x ∧ j < (ns.length : Int) := by
  subst hj
  have e : (i + (pre.length : Int)).toNat = i.toNat + pre.length := by lia
  have e2 : ns[i.toNat + pre.length]? = some x := by
    rw [← List.getElem?_drop, h]; simp
  rw [e]
  refine ⟨by rw [List.getD_eq_getElem?_getD, e2]; rfl, ?_⟩
  have : i.toNat + pre.length < ns.length := by
    rcases Nat.lt_or_ge (i.toNat + pre.length) ns.length with z | z
    · exact z
    · rw [List.getElem?_eq_none z] at e2; cases e2
  lia
theorem sign_at {ns pre post : List Int} {x i : Int} (hi : 0 ≤ i) (h : ns.drop i.toNat = pre ++ uuS x :: post) (hx : 0 ≤ x) (hx2 : x < 64) (j : Int) (hj : j = i + pre.length) : isU ns j = true ∧ sixU ns j = x := by
  obtain ⟨e, l⟩ := getD_at hi h j hj
  obtain ⟨b1, b2, b3⟩ := uuS_bounds hx hx2
  have u : isU ns j = true := by
    unfold isU; rw [e]; simp only [decide_eq_true_eq]; lia
  refine ⟨u, ?_⟩
  unfold sixU; rw [if_pos u, e, b3]
/-- the groups of three, filled up -/
noncomputable def pad : List Int → List Int
  | [] => []
  | [a] => [a, 0, 0]
  | [a, b] => [a, b, 0]
  | a :: b :: c :: r => a :: b :: c :: pad r
theorem pad_take : ∀ p : List Int, (pad p).take p.length = p
  | [] => rfl
  | [a] => rfl
  | [a, b] => rfl
  | a :: b :: c :: r => by simp [pad, pad_take r]
theorem pad_len : ∀ p : List Int, (pad p).length ≤ p.length + 2
  | [] => by simp [pad]
  | [a] => by simp [pad]
  | [a, b] => by simp [pad]
  | a :: b :: c :: r => by have := pad_len r; simp [pad]; lia
noncomputable def ga (q : List Int) : Int := q.getD 0 0
noncomputable def gb (q : List Int) : Int := q.getD 1 0
noncomputable def gc (q : List Int) : Int := q.getD 2 0
theorem pad_step : ∀ l : List Int, l ≠ [] → pad l = [ga l, gb l, gc l] ++ pad (l.drop 3) ∧ uuBody l = uu3 (ga l) (gb l) (gc l) ++ uuBody (l.drop 3)
  | [], h => absurd rfl h
  | [a], _ => by simp [pad, uuBody, ga, gb, gc]
  | [a, b], _ => by simp [pad, uuBody, ga, gb, gc]
  | a :: b :: c :: r, _ => by simp [pad, uuBody, ga, gb, gc]
structure RdInv (ns part post : List Int) (i : Int) (row : List Int) : Prop where
  pos : 0 ≤ i
  rows : row ++ pad (part.drop row.length) = pad part
  data : ns.drop i.toNat = uuBody (part.drop row.length) ++ 10 :: post
section
variable {ns part post row : List Int} {i a₀ : Int}
theorem RdInv.start (ha : 0 ≤ a₀) (h : ns.drop a₀.toNat = uuLine part ++ post) : RdInv ns part post (a₀ + 1) [] := by
  refine ⟨by lia, by simp, ?_⟩
  have e : (a₀ + 1).toNat = a₀.toNat + 1 := by lia
  rw [e, ← List.drop_drop, h]
  simp [uuLine]
theorem line_head (ha : 0 ≤ a₀) (h : ns.drop a₀.toNat = uuLine part ++ post) : ns.getD a₀.toNat 0 = uuS part.length ∧ a₀ < (ns.length : Int) :=
  getD_at (pre := []) ha (by rw [h]; rfl) a₀ (by simp)
theorem RdInv.len (h : RdInv ns part post i row) : row.length ≤ part.length + 2 := by
  have := congrArg List.length h.rows
  have := pad_len part
  simp only [List.length_append] at *
  lia
theorem RdInv.lt (h : RdInv ns part post i row) : i < (ns.length : Int) := by
  have := congrArg List.length h.data
  have := h.pos
  simp only [List.length_append, List.length_cons, List.length_drop] at *
  lia
theorem RdInv.bytes (hb : ∀ x ∈ part, 0 ≤ x ∧ x < 256) (k : Nat) : (0 ≤ (part.drop k).getD 0 0 ∧ (part.drop k).getD 0 0 < 256) ∧ (0 ≤ (part.drop k).getD 1 0 ∧ (part.drop k).getD 1 0 < 256) ∧ 0 ≤ (part.drop k).getD 2 0 ∧ (part.drop k).getD 2 0 < 256 := by
  have all : ∀ j, 0 ≤ (part.drop k).getD j 0 ∧ (part.drop k).getD j 0 < 256 := by
    intro j
    rw [List.getD_eq_getElem?_getD]
    cases e : (part.drop k)[j]? with
    | none => simp
    | some x => exact hb x (List.mem_of_mem_drop (List.mem_of_getElem? e))
  exact ⟨all 0, all 1, all 2⟩
theorem RdInv.signs (h : RdInv ns part post i row) (hb : ∀ x ∈ part, 0 ≤ x ∧ x < 256) (hlt : (row.length : Int) < part.length) :
    (isU ns i = true ∧ sixU ns i = ga (part.drop row.length) / 4) ∧ (isU ns (i + 1) = true ∧ sixU ns (i + 1) = ga (part.drop row.length) % 4 * 16 + gb (part.drop row.length) / 16) ∧
    (isU ns (i + 1 + 1) = true ∧ sixU ns (i + 1 + 1) = gb (part.drop row.length) % 16 * 4 + gc (part.drop row.length) / 64) ∧ (isU ns (i + 1 + 1 + 1) = true ∧ sixU ns (i + 1 + 1 + 1) = gc (part.drop row.length) % 64) := by
  obtain ⟨_, e⟩ := pad_step (part.drop row.length) (by intro e; have := congrArg List.length e; simp at this; lia)
  obtain ⟨h1, h2, h3⟩ := RdInv.bytes hb row.length
  have d := h.data
  rw [e] at d
  unfold uu3 at d
  simp only [ga, gb, gc, List.cons_append, List.nil_append] at *
  refine ⟨sign_at (pre := []) h.pos (by simpa using d) (by lia) (by lia) i (by simp), sign_at (pre := [_]) h.pos (by simpa using d) (by lia) (by lia) _ (by simp),
    sign_at (pre := [_, _]) h.pos (by simpa using d) (by lia) (by lia) _ (by simp; lia), sign_at (pre := [_, _, _]) h.pos (by simpa using d) (by lia) (by lia) _ (by simp; lia)⟩
theorem RdInv.turn (h : RdInv ns part post i row) (hlt : (row.length : Int) < part.length) {j : Int} (hj : j = i + 4) {x y z : Int} (hx : x = ga (part.drop row.length)) (hy : y = gb (part.drop row.length)) (hz : z = gc (part.drop row.length)) : RdInv ns part post j (row ++ [x, y, z]) := by
  subst hj hx hy hz
  obtain ⟨e1, e2⟩ := pad_step (part.drop row.length) (by intro e; have := congrArg List.length e; simp at this; lia)
  have el : (row ++ [ga (part.drop row.length), gb (part.drop row.length), gc (part.drop row.length)]).length = row.length + 3 := by simp
  have ep := h.pos
  refine ⟨by lia, ?_, ?_⟩
  · rw [el, ← List.drop_drop, List.append_assoc, ← e1]; exact h.rows
  · rw [el, ← List.drop_drop, show (i + 4).toNat = i.toNat + 4 by lia, ← List.drop_drop, h.data, e2]
    simp [uu3]
theorem RdInv.done (h : RdInv ns part post i row) (hge : ¬ (row.length : Int) < part.length) : row.take part.length = part ∧ ns.drop i.toNat = 10 :: post := by
  have e : part.drop row.length = [] := List.drop_of_length_le (by lia)
  have r := h.rows
  have d := h.data
  rw [e] at r d
  refine ⟨?_, by simpa [uuBody] using d⟩
  rw [show row = pad part by simpa [pad] using r]
  exact pad_take part
theorem RdInv.byt (_h : RdInv ns part post i row) (hb : ∀ x ∈ part, 0 ≤ x ∧ x < 256) : (0 ≤ ga (part.drop row.length) ∧ ga (part.drop row.length) < 256) ∧ (0 ≤ gb (part.drop row.length) ∧ gb (part.drop row.length) < 256) ∧ 0 ≤ gc (part.drop row.length) ∧ gc (part.drop row.length) < 256 :=
  RdInv.bytes hb row.length
theorem or6 {o z x : Int} (e : o = Builtin.bitOr z x) (hz : z % 64 = 0) (hz0 : 0 ≤ z) (hx : 0 ≤ x) (hx2 : x < 64) : o = z + x := by
  rw [e, bor_hi 6 (by lia) (by lia) (by lia) (by lia)]
theorem RdInv.turnB (h : RdInv ns part post i row) (hlt : (row.length : Int) < part.length) {j : Int} (hj : j = i + 4) {x y z : Int} (hx : x = ga (part.drop row.length)) (hy : y = gb (part.drop row.length)) (hz : z = gc (part.drop row.length)) :
    0 ≤ j ∧ j < ns.length ∧ (row ++ [x, y, z]).length ≤ part.length + 2 ∧ RdInv ns part post j (row ++ [x, y, z]) := by
  have q := h.turn hlt hj hx hy hz
  exact ⟨q.pos, q.lt, q.len, q⟩
theorem RdInv.stop (h : RdInv ns part post i row) (hge : ¬ (row.length : Int) < part.length) : List.take (min (i + 1).toNat ns.length - i.toNat) (List.drop i.toNat ns) = [10] := by
  rw [(h.done hge).2, cut_one h.pos h.lt]
  rfl
theorem RdInv.where_ (h : RdInv ns part post i row) (hge : ¬ (row.length : Int) < part.length) (ha : 0 ≤ a₀) (hd : ns.drop a₀.toNat = uuLine part ++ post) : i + 1 = a₀ + ((uuLine part).length : Int) := by
  have e1 := congrArg List.length (h.done hge).2
  have e2 := congrArg List.length hd
  have hp := h.pos
  have h3 := (line_head ha hd).2
  simp only [List.length_drop, List.length_cons, List.length_append] at e1 e2
  clear hd hge h
  obtain ⟨m, rfl⟩ := Int.eq_ofNat_of_zero_le hp
  obtain ⟨b, rfl⟩ := Int.eq_ofNat_of_zero_le ha
  exact congrArg Int.ofNat (where_nat e1 e2 (Int.ofNat_lt.mp h3))
theorem ints_take {ws : List Value} {a b : Nat} {r : List Int} (h : IntsAre ws (List.take a r)) (e : a = b) : IntsAre ws (List.take b r) := e ▸ h
end
end Mine
-- Px
open PySem PySem.W PyProof.Rows
namespace Mine
noncomputable def lines (parts : List (List Int)) : List Int := (parts.map uuLine).flatten
theorem lines_cons (p : List Int) (r : List (List Int)) : lines (p :: r) = uuLine p ++ lines r := rfl
theorem lines_append (a b : List (List Int)) : lines (a ++ b) = lines a ++ lines b := by simp [lines]
def PartInv (parts : List (List Int)) (i : Int) (found : List Int) : Prop := ∃ done rest, parts = done ++ rest ∧ found = done.flatten ∧ i = ((lines done).length : Int)
def PartsOk (parts : List (List Int)) : Prop := ∀ p ∈ parts, 0 < p.length ∧ p.length ≤ 63 ∧ ∀ x ∈ p, 0 ≤ x ∧ x < 256
section
variable {parts : List (List Int)} {found : List Int} {i : Int}
theorem PartInv.start : PartInv parts 0 [] := ⟨[], parts, rfl, rfl, rfl⟩
theorem PartInv.bounds (h : PartInv parts i found) : 0 ≤ i ∧ i ≤ ((lines parts).length : Int) ∧ found.length ≤ parts.flatten.length ∧ PartInv parts i found := by
  refine ⟨?_, ?_, ?_, h⟩ <;> obtain ⟨d, r, rfl, rfl, rfl⟩ := h
  · lia
  · rw [lines_append, List.length_append]; lia
  · rw [List.flatten_append, List.length_append]; lia
theorem uuLine_len (p : List Int) : 2 ≤ (uuLine p).length := by simp [uuLine]
theorem PartInv.head (h : PartInv parts i found) (hok : PartsOk parts) (hu : isU (lines parts) i = true) : ∃ p post, (0 < p.length ∧ p.length ≤ 63 ∧ ∀ x ∈ p, 0 ≤ x ∧ x < 256) ∧ (lines parts).drop i.toNat = uuLine p ++ post ∧
    (lines parts).getD i.toNat 0 = 32 + (p.length : Int) ∧ i < ((lines parts).length : Int) ∧ PartInv parts (i + (uuLine p).length) (found ++ p) := by
  obtain ⟨d, r, rfl, rfl, rfl⟩ := h
  cases r with
  | nil =>
    have := of_decide_eq_true hu
    rw [List.append_nil] at this
    lia
  | cons p r =>
    have hd : (lines (d ++ p :: r)).drop ((lines d).length : Int).toNat = uuLine p ++ lines r := by
      rw [lines_append, lines_cons, Int.toNat_natCast, List.drop_left]
    have ok := hok p (by simp)
    obtain ⟨g, lt⟩ := line_head (by lia) hd
    refine ⟨p, lines r, ok, hd, ?_, lt, d ++ [p], r, by simp, by simp, ?_⟩
    · rw [g]; unfold uuS; rw [if_neg (by lia)]
    · rw [lines_append, List.length_append]; simp [lines]
theorem PartInv.done (h : PartInv parts i found) (hok : PartsOk parts) (hu : isU (lines parts) i = false) : found = parts.flatten ∧ i = ((lines parts).length : Int) := by
  obtain ⟨d, r, rfl, rfl, rfl⟩ := h
  cases r with
  | nil => simp
  | cons p r =>
    exfalso
    have hd : (lines (d ++ p :: r)).drop ((lines d).length : Int).toNat = uuLine p ++ lines r := by
      rw [lines_append, lines_cons, Int.toNat_natCast, List.drop_left]
    have ok := hok p (by simp)
    obtain ⟨g, lt⟩ := line_head (by lia) hd
    have : isU (lines (d ++ p :: r)) ((lines d).length : Int) = true := by
      unfold isU
      rw [g]
      unfold uuS
      rw [if_neg (by lia)]
      simp only [decide_eq_true_eq]
      lia
    rw [this] at hu
    cases hu
end
end Mine
-- Py
open PySem PySem.W PyProof.Rows
namespace Mine
noncomputable def chunk (W : Nat) (ns : List Int) (i : Nat) : List Int := (ns.drop (W * i)).take W
noncomputable def chunks (W : Nat) (ns : List Int) (n : Nat) : List (List Int) := (List.range n).map (chunk W ns)
noncomputable def wideOf (c : Int) : Nat := if c ≤ 2 then 45 else (c / 3 * 3).toNat
noncomputable def uuRows (W : Nat) (ns : List Int) : List Int := lines (chunks W ns ((ns.length + (W - 1)) / W))
theorem chunks_succ (W : Nat) (ns : List Int) (n : Nat) : chunks W ns (n + 1) = chunks W ns n ++ [chunk W ns n] := by simp [chunks, List.range_succ]
theorem uuLine_le (p : List Int) : (uuLine p).length ≤ 4 * p.length + 2 := by
  have := uuBody_len p
  simp [uuLine]; lia
def RowInv (W : Nat) (ns : List Int) (i : Nat) (row : List Int) : Prop := row.length ≤ 300 * i ∧ row = lines (chunks W ns i)
section
variable {W : Nat} {ns row : List Int} {i : Nat}
theorem RowInv.start : RowInv W ns 0 [] := ⟨Nat.zero_le _, rfl⟩
theorem chunk_len : (chunk W ns i).length ≤ W := by simp [chunk]; lia
theorem RowInv.len (h : RowInv W ns i row) : row.length ≤ 300 * i := h.1
theorem RowInv.val (h : RowInv W ns i row) : row = lines (chunks W ns i) := h.2
theorem RowInv.turn (h : RowInv W ns i row) (hW : W ≤ 63) {j : Nat} (hj : j = i + 1) : RowInv W ns j (row ++ uuLine (chunk W ns i)) := by
  subst hj
  obtain ⟨h1, rfl⟩ := h
  refine ⟨?_, ?_⟩
  · have := uuLine_le (chunk W ns i)
    have := chunk_len (W := W) (ns := ns) (i := i)
    rw [List.length_append]; lia
  · rw [chunks_succ, lines_append]; simp [lines]
theorem chunk_at {c c' : Int} (hc : c = (W : Int)) (hc' : c' = (W : Int)) : List.take (min (0 + (i : Int) * c + c').toNat ns.length - (0 + (i : Int) * c).toNat) (List.drop (0 + (i : Int) * c).toNat ns) = chunk W ns i := by
  subst hc hc'
  have e2 : (0 + (i : Int) * (W : Int)).toNat = W * i := by rw [Int.zero_add, ← Int.natCast_mul, Int.toNat_natCast, Nat.mul_comm]
  have e3 : (0 + (i : Int) * (W : Int) + W).toNat = W * i + W := by rw [Int.zero_add, ← Int.natCast_mul, ← Int.natCast_add, Int.toNat_natCast, Nat.mul_comm]
  rw [e2, e3]
  unfold chunk
  rcases Nat.le_total (W * i + W) ns.length with h | h
  · rw [Nat.min_eq_left h, show W * i + W - W * i = W by lia]
  · rw [Nat.min_eq_right h, List.take_of_length_le (by simp), List.take_of_length_le (by simp; lia)]
end
theorem uu_lens {vs : List Value} {p : List Int} (h : IntsAre vs (uuLine p)) (hp : p.length ≤ 63) : vs.length ≠ 0 ∧ vs.length ≤ 254 := by
  have e := h.length
  have := uuLine_len p
  have := uuLine_le p
  lia
theorem wide_bounds {c : Int} (h0 : 0 ≤ c) (h1 : c < 13) : 3 ≤ wideOf c ∧ wideOf c ≤ 45 := by unfold wideOf; split <;> lia
theorem rows_count {W n : Nat} (hW : 0 < W) : if (0 : Int) < (n : Int) then ((n : Int) - 0 - 1) / (W : Int) + 1 = (((n + (W - 1)) / W : Nat) : Int) else (n + (W - 1)) / W = 0 := by
  split
  · rename_i h
    have e : n + (W - 1) = (n - 1) + W := by lia
    rw [e, Nat.add_div_right _ hW, show (n : Int) - 0 - 1 = ((n - 1 : Nat) : Int) by lia, ← Int.natCast_ediv]
    rfl
  · have : n = 0 := by lia
    subst this
    rw [Nat.zero_add]
    exact Nat.div_eq_of_lt (by lia)
theorem wide_lo {c : Int} (h : c ≤ 2) : (45 : Int) = (wideOf c : Int) := by unfold wideOf; rw [if_pos h]; rfl
theorem wide_hi {c : Int} (h : ¬ c ≤ 2) : c.fdiv 3 * 3 = (wideOf c : Int) := by
  rw [Int.fdiv_eq_ediv_of_nonneg _ (by lia)]; unfold wideOf; rw [if_neg h]; lia
theorem wide_ite {c : Int} (h0 : 0 ≤ c) (h : c < 13) : ¬ 63 < c.fdiv 3 * 3 := by
  rw [Int.fdiv_eq_ediv_of_nonneg _ (by lia)]; lia
theorem rows_pos {W n i : Nat} (hW : 0 < W) (h : i < (n + (W - 1)) / W) : (0 : Int) ≤ (i : Int) * (W : Int) ∧ (i : Int) * (W : Int) < (n : Int) := by
  have h2 : (i + 1) * W ≤ n + (W - 1) := Nat.le_trans (Nat.mul_le_mul_right W h) (Nat.div_mul_le_self _ _)
  rw [Nat.add_mul, Nat.one_mul] at h2
  refine ⟨by exact_mod_cast Nat.zero_le _, ?_⟩
  have : i * W < n := by lia
  exact_mod_cast this
theorem rows_few {W n i : Nat} (hW : 0 < W) (h : i < (n + (W - 1)) / W) (hn : n ≤ 100) : i < 200 := by
  have : (n + (W - 1)) / W ≤ n := by
    rcases Nat.eq_zero_or_pos n with rfl | h1
    · rw [Nat.zero_add, Nat.div_eq_of_lt (by lia)]; exact Nat.le_refl _
    · have e : n + (W - 1) = (n - 1) + W := by lia
      rw [e, Nat.add_div_right _ hW]
      have := Nat.div_le_self (n - 1) W
      lia
  lia
end Mine
-- Pz
open PySem PySem.W PyProof.Rows
namespace Mine
section
variable {W : Nat} {ns : List Int}
theorem chunks_flatten (n : Nat) : (chunks W ns n).flatten = ns.take (W * n) := by
  induction n with
  | zero => simp [chunks]
  | succ n ih =>
    rw [chunks_succ, List.flatten_append, ih, Nat.mul_succ, List.take_add]
    simp [chunk]
theorem rows_cover (hW : 0 < W) (n : Nat) : n ≤ W * ((n + (W - 1)) / W) := by
  have h := Nat.div_add_mod (n + (W - 1)) W
  have := Nat.mod_lt (n + (W - 1)) hW
  lia
theorem chunks_all (hW : 0 < W) : (chunks W ns ((ns.length + (W - 1)) / W)).flatten = ns := by
  rw [chunks_flatten]
  exact List.take_of_length_le (rows_cover hW _)
theorem chunks_ok (hW : 0 < W) (hW2 : W ≤ 63) (hb : ∀ x ∈ ns, 0 ≤ x ∧ x < 256) : PartsOk (chunks W ns ((ns.length + (W - 1)) / W)) := by
  intro p hp
  obtain ⟨i, hi, rfl⟩ := List.mem_map.mp hp
  have hi := List.mem_range.mp hi
  have := (rows_pos hW hi).2
  have h3 : i * W < ns.length := by exact_mod_cast this
  rw [Nat.mul_comm] at h3
  refine ⟨?_, Nat.le_trans chunk_len hW2, fun x hx => hb x (List.mem_of_mem_drop (List.mem_of_mem_take hx))⟩
  simp only [chunk, List.length_take, List.length_drop]
  lia
/-- a sign, or the end of a line -/
def signOk (x : Int) : Prop := x = 10 ∨ (33 ≤ x ∧ x ≤ 96)
theorem uuS_ok {x : Int} (h : 0 ≤ x) (h2 : x < 64) : 33 ≤ uuS x ∧ uuS x ≤ 96 := by unfold uuS; split <;> lia
theorem uu3_ok {a b c : Int} (ha : 0 ≤ a ∧ a < 256) (hb : 0 ≤ b ∧ b < 256) (hc : 0 ≤ c ∧ c < 256) : ∀ x ∈ uu3 a b c, 33 ≤ x ∧ x ≤ 96 := by
  intro x hx
  simp only [uu3, List.mem_cons, List.not_mem_nil, or_false] at hx
  rcases hx with rfl | rfl | rfl | rfl <;> exact uuS_ok (by lia) (by lia)
theorem uuBody_ok : ∀ p : List Int, (∀ x ∈ p, 0 ≤ x ∧ x < 256) → ∀ x ∈ uuBody p, 33 ≤ x ∧ x ≤ 96
  | [], _ => by simp [uuBody]
  | [a], h => by
    intro x hx
    exact uu3_ok (b := 0) (c := 0) (h a (by simp)) (by lia) (by lia) x (by simpa [uuBody] using hx)
  | [a, b], h => by
    intro x hx
    exact uu3_ok (c := 0) (h a (by simp)) (h b (by simp)) (by lia) x (by simpa [uuBody] using hx)
  | a :: b :: c :: r, h => by
    intro x hx
    rcases List.mem_append.mp (by simpa [uuBody] using hx : x ∈ uu3 a b c ++ uuBody r) with hx | hx
    · exact uu3_ok (h a (by simp)) (h b (by simp)) (h c (by simp)) x hx
    · exact uuBody_ok r (fun y hy => h y (by simp [hy])) x hx
theorem uuLine_ok {p : List Int} (hp : p.length ≤ 63) (hb : ∀ x ∈ p, 0 ≤ x ∧ x < 256) : (∀ x ∈ uuLine p, signOk x) ∧ (uuLine p).count 10 = 1 := by
  have hS := uuS_ok (x := (p.length : Int)) (by lia) (by lia)
  have hB := uuBody_ok p hb
  refine ⟨fun x hx => ?_, ?_⟩
  · simp only [uuLine, List.cons_append, List.mem_cons, List.mem_append, List.not_mem_nil, or_false] at hx
    rcases hx with rfl | hx | rfl
    · exact .inr hS
    · exact .inr (hB x hx)
    · exact .inl rfl
  · simp only [uuLine, List.cons_append]
    rw [List.count_cons_of_ne (by intro e; lia), List.count_append, List.count_eq_zero.mpr (by intro hm; have := hB _ hm; lia)]
    rfl
theorem lines_ok : ∀ {parts : List (List Int)}, PartsOk parts → (∀ x ∈ lines parts, signOk x) ∧ (lines parts).count 10 = parts.length
  | [], _ => ⟨fun x hx => by simp [lines] at hx, by simp [lines]⟩
  | p :: r, h => by
    obtain ⟨h1, h2⟩ := lines_ok (parts := r) fun q hq => h q (by simp [hq])
    obtain ⟨_, hl, hb⟩ := h p (by simp)
    obtain ⟨h3, h4⟩ := uuLine_ok hl hb
    rw [lines_cons]
    refine ⟨fun x hx => ?_, ?_⟩
    · rcases List.mem_append.mp hx with hx | hx
      · exact h3 x hx
      · exact h1 x hx
    · rw [List.count_append, h2, h4, List.length_cons]; lia
theorem chunk_succ (i : Nat) : chunk W ns (i + 1) = chunk W (ns.drop W) i := by
  unfold chunk
  rw [List.drop_drop, Nat.mul_succ, Nat.add_comm]
theorem chunks_cons (n : Nat) : chunks W ns (n + 1) = ns.take W :: chunks W (ns.drop W) n := by
  unfold chunks
  rw [List.range_succ_eq_map, List.map_cons, List.map_map]
  congr 1
  exact List.map_congr_left fun i _ => chunk_succ i
theorem rows_split (hW : 0 < W) : uuRows W ns = uuRows W (ns.take W) ++ uuRows W (ns.drop W) := by
  have nil : uuRows W [] = [] := by
    unfold uuRows
    rw [show (([] : List Int).length + (W - 1)) / W = 0 from Nat.div_eq_of_lt (by simp; lia)]
    rfl
  rcases Nat.eq_zero_or_pos ns.length with h | h
  · rw [List.length_eq_zero_iff.mp h]
    simp [nil]
  · have e1 : (ns.length + (W - 1)) / W = ((ns.drop W).length + (W - 1)) / W + 1 := by
      rw [List.length_drop]
      rcases Nat.le_total W ns.length with z | z
      · rw [show ns.length + (W - 1) = (ns.length - W + (W - 1)) + W by lia, Nat.add_div_right _ hW]
      · rw [show ns.length - W = 0 by lia, Nat.zero_add, Nat.div_eq_of_lt (show W - 1 < W by lia), show ns.length + (W - 1) = (ns.length - 1) + W by lia, Nat.add_div_right _ hW, Nat.div_eq_of_lt (by lia)]
    have e2 : ((ns.take W).length + (W - 1)) / W = 1 := by
      rw [List.length_take]
      rw [show min W ns.length + (W - 1) = (min W ns.length - 1) + W by lia, Nat.add_div_right _ hW, Nat.div_eq_of_lt (by lia)]
    unfold uuRows
    rw [e1, e2, chunks_cons, lines_cons, chunks_cons, lines_cons, List.take_take, Nat.min_self]
    simp [chunks, lines]
theorem uuRows_len (hb : PartsOk (chunks W ns ((ns.length + (W - 1)) / W))) (hW : 0 < W) : (uuRows W ns).length ≤ 6 * ns.length := by
  have key : ∀ parts : List (List Int), PartsOk parts → (lines parts).length ≤ 6 * parts.flatten.length := by
    intro parts
    induction parts with
    | nil => intro _; simp [lines]
    | cons p r ih =>
      intro h
      have h1 := ih fun q hq => h q (by simp [hq])
      have h2 := uuLine_le p
      have h3 := (h p (by simp)).1
      rw [lines_cons, List.length_append, List.flatten_cons, List.length_append]
      lia
  have := key _ hb
  rw [chunks_all hW] at this
  exact this
end
end Mine
-- Mac
open PySem PySem.W PyProof.Rows PySem.Calls PySem.Spec
namespace Mine
section
variable {prog : Program} {w : World} {A : Around} {E : Value → Shared → Prop} {s : Shared} {a b : Int} {t u : Tok} {Q : Value → Shared → Prop}
theorem o_and (h : ∀ x, x = Builtin.bitAnd a b → Q (.int x s.toks) { s with toks := s.toks + 1 }) : wpAny (model prog w) A (binaryOp .BitAnd (.int a t) (.int b u)) Q E s := and_int (h _ rfl)
theorem o_iand (h : ∀ x, x = Builtin.bitAnd a b → Q (.int x s.toks) { s with toks := s.toks + 1 }) : wpAny (model prog w) A (inplaceOp .BitAnd (.int a t) (.int b u)) Q E s := iand_int (h _ rfl)
theorem o_or (h : ∀ x, x = Builtin.bitOr a b → Q (.int x s.toks) { s with toks := s.toks + 1 }) : wpAny (model prog w) A (binaryOp .BitOr (.int a t) (.int b u)) Q E s := or_int (h _ rfl)
theorem o_ior (h : ∀ x, x = Builtin.bitOr a b → Q (.int x s.toks) { s with toks := s.toks + 1 }) : wpAny (model prog w) A (inplaceOp .BitOr (.int a t) (.int b u)) Q E s := ior_int (h _ rfl)
theorem o_rsh (hn : 0 ≤ b) (h : ∀ x, x = a / 2 ^ b.toNat → Q (.int x s.toks) { s with toks := s.toks + 1 }) : wpAny (model prog w) A (binaryOp .RShift (.int a t) (.int b u)) Q E s := rshift_int hn (h _ (fdiv_pow _ _))
theorem o_irsh (hn : 0 ≤ b) (h : ∀ x, x = a / 2 ^ b.toNat → Q (.int x s.toks) { s with toks := s.toks + 1 }) : wpAny (model prog w) A (inplaceOp .RShift (.int a t) (.int b u)) Q E s := irshift_int hn (h _ (fdiv_pow _ _))
theorem o_lsh (hn : 0 ≤ b) (hn2 : b ≤ 1000000) (ha : a.natAbs < 2 ^ 64) (h : ∀ x, x = a * 2 ^ b.toNat → Q (.int x s.toks) { s with toks := s.toks + 1 }) : wpAny (model prog w) A (binaryOp .LShift (.int a t) (.int b u)) Q E s := lshift_int_small hn hn2 ha (h _ rfl)
theorem o_add (h : ∀ x, x = a + b → Q (.int x s.toks) { s with toks := s.toks + 1 }) : wpAny (model prog w) A (binaryOp .Add (.int a t) (.int b u)) Q E s := add_int (h _ rfl)
theorem o_iadd (h : ∀ x, x = a + b → Q (.int x s.toks) { s with toks := s.toks + 1 }) : wpAny (model prog w) A (inplaceOp .Add (.int a t) (.int b u)) Q E s := iadd_int (h _ rfl)
theorem o_sub (h : ∀ x, x = a - b → Q (.int x s.toks) { s with toks := s.toks + 1 }) : wpAny (model prog w) A (binaryOp .Sub (.int a t) (.int b u)) Q E s := sub_int (h _ rfl)
end
theorem notlit {P : Prop} (h : P) : P := h
theorem foldQ {α : Type} {M : Model} {A : Around} {c : Sem α} {Q : α → Shared → Prop} {E : Value → Shared → Prop} {s : Shared} (h : let q := Q; wpAny M A c q E s) : wpAny M A c Q E s := h
end Mine
open Mine
-- a call that leaves all as it was
local macro_rules | `(tactic| passes_own) => `(tactic| walk_at "passes own line")
local macro_rules | `(tactic| kst_facts1) => `(tactic| walk_at "kst facts1 line")
-- sizes, by the lengths in the context
local macro_rules | `(tactic| size_fits) => `(tactic| walk_at "sz")
namespace Mine
section
variable {w : World} {A : Around} {E : Value → Shared → Prop} {s : Shared} {h₀ : Heap} {L D b : Addr} {m : Str → Option Value} {news news' : List (Addr × Obj)} {vs ws : List Value} {n n2 : Nat} {Q : Value → Shared → Prop}
theorem my_extend {prog : Program} (F : Fr h₀ L s.heap m) (N : News h₀ L s.heap news) (hb : (b, listOf ws.toArray n2) ∈ news) (U : Upd D (listOf vs.toArray n) (listOf (vs ++ ws).toArray (n + 1)) news news') (hne : ws.length ≠ 0) (hz : vs.length + ws.length ≤ 1000000)
    (h : ∀ h', Fr h₀ L h' m → News h₀ L h' news' → Q .none { s with heap := h' }) : wpAny (model prog w) A (call (.builtin "list.extend") [.ref D, .ref b]) Q E s :=
  kl_extend F N hb rfl hne U (by simp [Builtin.List.listTooLong, PySem.sizeLine_eq]; omega) (by rw [PySem.sizeLine_eq]; show vs.length ≤ _; omega) (by rw [PySem.sizeLine_eq]; show vs.length + ws.length ≤ _; omega) h
end
end Mine
-- the right line at once
local macro_rules | `(tactic| kmk_size) => `(tactic| walk_at "kmk size line")
local macro_rules | `(tactic| kmk_nums) => `(tactic| walk_at "kmk nums line")
local macro_rules | `(tactic| kmk_sign) => `(tactic| omega)

local macro_rules | `(tactic| k_ne) => `(tactic| walk_at "k ne line")
local macro_rules | `(tactic| omega) => `(tactic| lia)

local macro_rules | `(tactic| walk_at $s:str) => `(tactic| k_extra $s)
-- Pz2
open PySem PySem.W PyProof.Rows PySem.Calls PySem.Spec
namespace Mine
theorem carried_nil {ys : List Value} {l : List Int} (c : CarriedAll ys (List.map PyData.int l)) (e : l = []) : ys = [] := by
  subst e
  cases c
  rfl
theorem filter_sign {l : List Int} (h : ∀ x ∈ l, signOk x) : List.filter (fun a => if (a != 10) = true then if 33 ≤ a then if (!decide (a ≤ 96)) = true then true else false else true else false) l = [] := by
  rw [List.filter_eq_nil_iff]
  intro a ha
  rcases h a ha with rfl | ⟨h1, h2⟩
  · simp
  · have h3 : a ≠ 10 := by lia
    simp [h3, h1, h2]
end Mine
namespace Mine
section
variable {W n : Nat} {ns : List Int} {vs : List Value}
theorem rows_few6 (hW : 0 < W) (hW2 : W ≤ 63) (hlen : ns.length ≤ 100) (hb : ∀ x ∈ ns, 0 ≤ x ∧ x < 256) : (uuRows W ns).length ≤ 600 := by
  have := uuRows_len (W := W) (ns := ns) (chunks_ok hW hW2 hb) hW
  lia
theorem few_take (_ : IntsAre vs (uuRows W (List.take n ns))) (hW : 0 < W) (hW2 : W ≤ 63) (hlen : ns.length ≤ 100) (hb : ∀ x ∈ ns, 0 ≤ x ∧ x < 256) : (uuRows W (List.take n ns)).length ≤ 600 :=
  rows_few6 hW hW2 (by rw [List.length_take]; lia) fun x hx => hb x (List.mem_of_mem_take hx)
theorem few_drop (_ : IntsAre vs (uuRows W (List.drop n ns))) (hW : 0 < W) (hW2 : W ≤ 63) (hlen : ns.length ≤ 100) (hb : ∀ x ∈ ns, 0 ≤ x ∧ x < 256) : (uuRows W (List.drop n ns)).length ≤ 600 :=
  rows_few6 hW hW2 (by rw [List.length_drop]; lia) fun x hx => hb x (List.mem_of_mem_drop hx)
theorem rows_lines {c : Int} (hok : PartsOk (chunks (wideOf c) ns ((ns.length + (wideOf c - 1)) / wideOf c))) (hW : 3 ≤ wideOf c) : ((List.count 10 (uuRows (wideOf c) ns) : Nat) : Int) = ((ns.length : Int) + (wideOf c : Int) - 1).fdiv (wideOf c : Int) := by
  have e : List.count 10 (uuRows (wideOf c) ns) = (ns.length + (wideOf c - 1)) / wideOf c := by
    show List.count 10 (lines _) = _
    rw [(lines_ok hok).2]
    simp [chunks]
  rw [e, Int.fdiv_eq_ediv_of_nonneg _ (by lia), Int.natCast_ediv]
  congr 1
  lia
theorem rows_lines1 {c : Int} (hok : PartsOk (chunks (wideOf c) ns ((ns.length + (wideOf c - 1)) / wideOf c))) (hW : 3 ≤ wideOf c) (h : c ≤ 2) : ((List.count 10 (uuRows (wideOf c) ns) : Nat) : Int) = ((ns.length : Int) + 45 - 1).fdiv 45 := by
  rw [wide_lo h]; exact rows_lines hok hW
theorem rows_lines2 {c : Int} (hok : PartsOk (chunks (wideOf c) ns ((ns.length + (wideOf c - 1)) / wideOf c))) (hW : 3 ≤ wideOf c) (h : ¬ c ≤ 2) : ((List.count 10 (uuRows (wideOf c) ns) : Nat) : Int) = ((ns.length : Int) + c.fdiv 3 * 3 - 1).fdiv (c.fdiv 3 * 3) := by
  rw [wide_hi h]; exact rows_lines hok hW
end
end Mine
-- X1
open PySem PySem.W PyProof.Rows PySem.Calls PySem.Spec PySem.W.X
namespace Mine
theorem mem_keep {h₀ h : Heap} {news : List (Addr × Obj)} (D : Mem h₀ h [] news) : h₀.StaysIn h := fun b o e => D.keep b o e (by unfold away; simp)
noncomputable abbrev dieObj (d t : Addr) : Obj := { cls := .ref 51, dict := some d, data := .fields #[.ref t, .none, .none, .none, .bool false, .none] }
/-- a Die, made new -/
def DieAt (h₀ h : Heap) (e : Addr) : Prop := h₀.StaysIn h ∧ h₀.get? e = none ∧ ∃ d t, h.get? e = some (dieObj d t)
theorem around_le {α : Type} {M : Model} {hd : Option Value} {fr : Option (List Env)} {gd : Option (List Code)} {t : Sem α} {Q : α → Shared → Prop} {E : Value → Shared → Prop} {s : Shared} {dp un : Nat} (d u : Nat)
    (h : wpAny M { handled := hd, depth := d, frames := fr, guards := gd, units := u } t Q E s) (h1 : dp ≤ d) (h2 : un ≤ u) : wpAny M { handled := hd, depth := dp, frames := fr, guards := gd, units := un } t Q E s :=
  fun Γ p hΓ => h Γ p ⟨hΓ.1, Nat.le_trans hΓ.2.1 h1, hΓ.2.2.1, hΓ.2.2.2.1, Nat.le_trans hΓ.2.2.2.2 h2⟩
structure DieRet (s : Shared) (Q : Value → Shared → Prop) : Prop where
  ret : ∀ (e : Addr) (h' : Heap) (tk' : Nat), DieAt s.heap h' e → Q (.ref e) { s with heap := h', toks := tk' }
theorem die_use {s : Shared} {Q : Value → Shared → Prop} {h : Heap} {news : List (Addr × Obj)} {e tk : Nat} (R : DieRet s Q)
    (D : Mem s.heap h [] news) (hm : ∃ d t, (e, dieObj d t) ∈ news) : Q (.ref e) ⟨h, s.gens, s.drawn, tk, s.os⟩ := by
  obtain ⟨d, t, hm⟩ := hm
  exact R.ret e h tk ⟨mem_keep D, (D.nw _ hm).2, d, t, (D.nw _ hm).1⟩
end Mine
open Mine
local macro_rules | `(tactic| x_close) => `(tactic| walk_at "x close line")
namespace Mine
theorem bents_at {w : World} {h : Heap} (KX : (Mine.frag w.params).In h) : h.get? (nat_lit 0) = some { cls := .type "dict", data := .dict (bents w.params) 159 } := KX 0 _ rfl
theorem ments_at {w : World} {h : Heap} (KX : (Mine.frag w.params).In h) : h.get? (nat_lit 3) = some { cls := .type "dict", data := .dict (ments w.params) 38 } := KX 3 _ rfl
set_option maxHeartbeats 0 in
theorem die_new {prog : Program} {w : World} {x : Str} {t : Tok} {dp un : Nat} {gd : Option (List Code)} {cn : Str} {cs : Scope} {L a : Addr} {ccd : Value} {cl : List (Str × Addr)} {outer : List Env} {s : Shared} {Q E : Value → Shared → Prop}
    (KX : (Mine.frag w.params).In s.heap) (hd : dp + 20 < recursionLimit) (hu : un + 200 < cLine) (hret : DieRet s Q) :
    wpAny (model prog w) (ktrTop dp un gd cn cs L a ccd cl outer) (call (.ref 51) [.str x t]) Q E s := by
  have hb0 := bents_at KX
  have hb3 := ments_at KX
  refine around_le 980 9700 ?_ (by unfold recursionLimit at hd; omega) (by unfold cLine at hu; omega)
  k_with_none
  k_with "x close line" => ((rename DieRet _ _ => hr9); (rename Mem _ _ _ _ => hD9); refine' die_use hr9 hD9 ⟨_, _, ?zq9hm⟩; (case zq9hm => (repeat (first | exact List.Mem.head _ | refine List.Mem.tail _ ?_))))
  x_run
end Mine
-- X3
open PySem PySem.W PyProof.Rows PySem.Calls PySem.Spec PySem.W.X
namespace Mine
noncomputable def dieMro : List Value := [.ref 31, .type "Exception", .type "BaseException", .type "object"]
theorem die_cls {w : World} {h : Heap} (X : (Mine.frag w.params).In h) : h.get? 51 = some (excClassObj (Str.ofString "Die") (Str.ofString "Die") 51 50 [.ref 31] dieMro true [] [] false none none (some (.ref 35)) none (some (.str (Str.ofString "Die") 218)) (some (.str (Str.ofString "Die") 226)) (some (.bool true)) "Exception.__new__") :=
  X 51 _ (by kernel_rfl)
/-- the object is an exception that a statement may raise -/
def RaisableDie (w : World) (E : Value → Shared → Prop) (v : Value) (s₁ : Shared) : Prop := ∃ e d t, v = .ref e ∧ (Mine.frag w.params).In s₁.heap ∧ s₁.heap.get? e = some (dieObj d t) ∧ E (.ref e) s₁
theorem raise_die {w : World} {M : Model} {A : Around} {env : Env} {s : Shared} {x : Sem Value} {Q : Flow → Shared → Prop} {E : Value → Shared → Prop} (hh : A.handled = none)
    (h : wpAny M A x (RaisableDie w E) E s) : wpAny M A (raiseStmt env (some x) none) Q E s := by
  have hcB : (Value.ref 51 :: dieMro).contains (.type "BaseException") = true := by decide
  unfold raiseStmt
  refine wpAny_bind (wpAny_mono h (fun v s₁ h₁ => ?_) fun _ _ x => x)
  obtain ⟨e, d, t, rfl, X, he, hE⟩ := h₁
  have hC := die_cls X
  obtain ⟨hp, g, dr, tk, os⟩ := s₁
  dsimp only at hC he
  repeat (first | with_reducible refine wpAny_loadPart_at he ?_ | with_reducible refine wpAny_loadPart_at hC ?_ | (with_reducible refine wpAny_isSubtype_exc hC ?_; rw [hcB]) | wp_step)
  exact wpAny_raiseNew_none hh hE
theorem Raise_die {w : World} {M : Model} {A : Around} {env : Env} {s : Shared} {e : PySem.Expr} {pos : Pos} {Q : Flow → Shared → Prop} {E : Value → Shared → Prop} (hh : A.handled = none)
    (h : wpAny M A (eval e env) (RaisableDie w E) E s) : wpAny M A (exec (.Raise (some e) none pos) env) Q E s := by
  show wpAny M A (do standAt pos; raiseStmt env (some (do let v ← eval e env; standAt pos; pure v)) none) Q E s
  exact wpAny_bind (wpAny_standAt (raise_die (w := w) hh (wpAny_bind (wpAny_mono h (fun v s₁ h₁ => wpAny_bind (wpAny_standAt (wpAny_pure h₁))) fun _ _ x => x))))


set_option maxHeartbeats 1000000 in
theorem leave_die {M : Model} {A : Around} {E : Value → Shared → Prop} {s' : Shared} {base g h : Heap} {outer : List Env} {L a e : Addr} {m : Str → Option Value} {name : Str} {scope : Scope} {cd : Value} {Q : Unit → Shared → Prop}
    (K : Below A base outer g) (hx : DieAt h s'.heap e) (F : Fr g L h m)
    (hQ : ∀ h', RaisedSN base g outer e (.ref 51) [] h' → g.UpToSlots h' → Q () { s' with heap := h' }) (hk : scope.kind = .function := by rfl) :
    wpAny M (A.deeper (envOf name scope L a cd)) (leaving (envOf name scope L a cd) (.ref e)) Q E s' := by
  obtain ⟨kp, nw, d, t, he⟩ := hx
  have K' := K.push (name := name) (a := a) (cd := cd) F hk
  let fs := (envOf name scope L a cd :: outer).filterMap (·.frame)
  have inFs : ∀ env ∈ (envOf name scope L a cd :: outer), ∀ b, env.frame = some b → b ∈ fs := fun env h1 b h2 => List.mem_filterMap.mpr ⟨env, h1, h2⟩
  have sb : base.StaysIn (hideAll h fs) := fun b o q => hideAll_get _ (K'.stays b o q) fun hm => by
    rw [(K'.frames.mem hm).1] at q; cases q
  have sg : ∀ b o, g.get? b = some o → b ∉ outer.filterMap (·.frame) → (hideAll h fs).get? b = some o := fun b o q nm => hideAll_get _ (F.keep b o q) fun hm => by
    rcases kts_mem hm with z | z
    · rw [z, kts_self F] at q; cases q
    · exact nm z
  have hen : (hideAll h fs).get? e = none := by
    cases q : (hideAll h fs).get? e with
    | none => rfl
    | some o => have := of_hideAll _ q; rw [nw] at this; cases this
  refine wpAny_leaving_firstW (a0 := .ref t) K'.stack ((funFrames_hide K'.frames inFs).of_keeps fun b o hb _ => ⟨o, kp b o hb, rfl⟩) rfl he (fun b o hb => kp b o (of_hideAll _ hb)) hen rfl rfl rfl fun h' hL => ?_
  obtain ⟨k1, ⟨_, _, k2⟩, k3, k4⟩ := hL
  exact hQ h' ⟨_, .ref t, sb, sg, (fun q hq => (nomatch hq)), k1, hen, k2, k3⟩ (((Heap.UpToSlots.of_keeps F.keep).trans (Heap.UpToSlots.of_keeps kp)).trans k4)
theorem raisable_of {w : World} {E : Value → Shared → Prop} {h₀ : Heap} {s₁ : Shared} {e : Addr} (X : (Mine.frag w.params).In h₀) (hD : DieAt h₀ s₁.heap e) (hE : E (.ref e) s₁) : RaisableDie w E (.ref e) s₁ := by
  obtain ⟨kp, _, d, t, he⟩ := hD
  exact ⟨e, d, t, rfl, X.keeps kp, he, hE⟩
end Mine
-- Fo
open PySem PySem.W PyProof.Rows PySem.Calls PySem.Spec
namespace Mine
/-- what stands behind a statement -/
def seqQ (M : Model) (A : Around) (rest : List Stmt) (env : Env) (Q : Flow → Shared → Prop) (E : Value → Shared → Prop) : Flow → Shared → Prop := fun f s' => match f with | .next => wpAny M A (execs rest env) Q E s' | f => Q f s'
section
variable {M : Model} {A : Around} {st : Stmt} {rest : List Stmt} {env : Env} {Q : Flow → Shared → Prop} {E : Value → Shared → Prop} {s : Shared} {v : Value}
theorem execs_seq (h : let q := seqQ M A rest env Q E; wpAny M A (exec st env) q E s) : wpAny M A (execs (st :: rest) env) Q E s := wpAny_execs_cons h
theorem seq_next (h : wpAny M A (execs rest env) Q E s) : seqQ M A rest env Q E .next s := h
theorem seq_nil (h : Q .next s) : seqQ M A [] env Q E .next s := wpAny_execs_nil h
theorem seq_ret (h : Q (.ret v) s) : seqQ M A rest env Q E (.ret v) s := h
end
end Mine
open Mine
-- a statement's continuation gets a name
-- R1
open PySem PySem.W PyProof.Rows PySem.Calls PySem.Spec
namespace Mine
set_option maxHeartbeats 8000000 in
theorem ber_c (w : World) (n : Int) (t : Tok) (h0 : 0 ≤ n) (h1 : n < 2 ^ 62) : PCall w 5 60 [.int n t] (fun _ => True) (fun h₀ h r => NewInts h₀ h r (ber n)) := by
  unfold PCall prg
  k_fill
  intro mean mg mb dp un gd cn cs aC ccd cl outer A₀ base h₀ L m s Q E hB hF hX hT hK hDp hUn hpre hret
  refine wpAny_call ?_
  k_with_none
  k_with "op line" => (intro opX opE; (try simp only [bitAnd_m1, bitAnd_m4, bitAnd_m6, bitAnd_m7, bitAnd_m8, Int.reduceToNat, Int.reducePow] at opE))
  k_with "binaryOp BitAnd int int" => (k_here; (fail_if_success (with_reducible show wpAny _ _ (binaryOp _ (Value.int (OfNat.ofNat _) _) (Value.int (OfNat.ofNat _) _)) _ _ _)); (with_reducible refine o_and ?_); walk_at "op line")
  k_with "inplaceOp BitAnd int int" => (k_here; (fail_if_success (with_reducible show wpAny _ _ (inplaceOp _ (Value.int (OfNat.ofNat _) _) (Value.int (OfNat.ofNat _) _)) _ _ _)); (with_reducible refine o_iand ?_); walk_at "op line")
  k_with "binaryOp BitOr int int" => (k_here; (fail_if_success (with_reducible show wpAny _ _ (binaryOp _ (Value.int (OfNat.ofNat _) _) (Value.int (OfNat.ofNat _) _)) _ _ _)); (with_reducible refine o_or ?_); walk_at "op line")
  k_with "inplaceOp BitOr int int" => (k_here; (fail_if_success (with_reducible show wpAny _ _ (inplaceOp _ (Value.int (OfNat.ofNat _) _) (Value.int (OfNat.ofNat _) _)) _ _ _)); (with_reducible refine o_ior ?_); walk_at "op line")
  k_with "binaryOp RShift int int" => (k_here; (fail_if_success (with_reducible show wpAny _ _ (binaryOp _ (Value.int (OfNat.ofNat _) _) (Value.int (OfNat.ofNat _) _)) _ _ _)); (with_reducible refine o_rsh ?zq9kb1 ?_); (case zq9kb1 => l_bnd); walk_at "op line")
  k_with "inplaceOp RShift int int" => (k_here; (fail_if_success (with_reducible show wpAny _ _ (inplaceOp _ (Value.int (OfNat.ofNat _) _) (Value.int (OfNat.ofNat _) _)) _ _ _)); (with_reducible refine o_irsh ?zq9kb1 ?_); (case zq9kb1 => l_bnd); walk_at "op line")
  k_with "binaryOp LShift int int" => (k_here; (fail_if_success (with_reducible show wpAny _ _ (binaryOp _ (Value.int (OfNat.ofNat _) _) (Value.int (OfNat.ofNat _) _)) _ _ _)); (with_reducible refine o_lsh ?zq9kb1 ?zq9kb2 ?zq9kb3 ?_); (case zq9kb1 => l_bnd); (case zq9kb2 => l_bnd); (case zq9kb3 => l_bnd); walk_at "op line")
  k_with "pure enter" => (refine' code_pure ?zq9k1 ?zq9k2 ?zq9k3 ?zq9k5 ?zq9kA ?zq9kF ?zq9kK ?zq9k6 ?zq9k7 ?zq9k8 ?zq9k9 ?zq9kB ?_ ?zq9c2 ?zq9c3 ?zq9c4 ?zq9c5; (case zq9kA => exact rfl); (case zq9kF => exact rfl); (case zq9kK => assumption); (case zq9k1 => k_asm); (case zq9k2 => k_asm); (case zq9k3 => k_asm); (case zq9k5 => k_asm); (case zq9k6 => k_is); (case zq9k7 => k_is); (case zq9k8 => ktr_room); (case zq9k9 => exact BindsTo.of_eq rfl); (case zq9c5 => decide); (case zq9kB => exact locs rfl); (case zq9c2 => exact rfl); (case zq9c3 => exact rfl); (case zq9c4 => exact rfl); k_whole; intro L' h' F' N' B' X' T'; (try dsimp only); (try k_lift B'); (try k_fold))
  k_with "passes own line" => (with_reducible exact PySem.PassesOwn.leaving)
  k_with "kst facts1 line" => (first | with_reducible assumption | ((repeat (with_reducible refine IntsAre.cons _ _ ?_)); with_reducible exact IntsAre.nil) | exact IntsAre.append (by with_reducible assumption) (by with_reducible assumption) | exact IntsAre.append (by kst_facts1) (IntsAre.cons _ _ IntsAre.nil) | exact IntsAre.append (by kst_facts1) (IntsAre.cons _ _ (IntsAre.cons _ _ (IntsAre.cons _ _ IntsAre.nil))))
  k_with "sz" => ((try law_lens); (try simp only [List.size_toArray, Array.size_append, Array.size_push, Array.length_toList, List.length_append, List.length_cons, List.length_nil, List.length_reverse, List.length_map, PySem.sizeLine_eq] at *); omega)
  k_with "call builtin:list.reverse" => (k_here; (with_reducible show wpAny _ _ (call (Value.builtin _) [Value.ref _]) _ _ _); k_dflt (refine' kl_reverse ?zq9F ?zq9N ?zq9e ?zq9U ?zq9z ?_; (case zq9F => k_asm); (case zq9N => k_asm); (case zq9e => exact rfl); (case zq9U => k_upd); (case zq9z => walk_at "sz")); intro h' F' N'; (try k_sweep))
  k_with "all and" => ((repeat' (with_reducible apply And.intro)) <;> first | trivial | assumption | omega)
  k_with "exec While Compare cons nil" => (k_dflt (k_extra "while"))
  k_with "exec While BoolOp cons nil" => (k_dflt (k_extra "while"))
  k_with "exec While" => (k_dflt (k_extra "while"))
  k_with "use side" => ((case k1 => k_asm); (case k2 => k_asm); (case k3 => k_asm); (case k4 => k_asm); (case k5 => k_asm); (case kK => first | exact rfl | assumption); (case kd => ktr_room); (case ku => ktr_units))
  k_with "use new" => ((try simp only [AllNe, and_true] at l1); (try k_sweep); (try dsimp only); (try k_fold))
  k_with "is list" => first | exact trivial | assumption | exact News.isList (by k_asm) (by k_mem) | exact stays_list (Fr.keep (by k_asm)) (by assumption)
  k_with "call ref" => (k_dflt (k_extra "call"))
  k_with "exec Raise some none" => (k_dflt (exfalso; k_extra "raise"))
  k_with "for enter" => (ktd_said "for"; k_here; (rename Fr _ _ _ _ => lF'); (with_unfolding_all refine' For_invVF lF' ?zq9k1 ?zq9k2 ?_; (case zq9k1 => exact rfl); (case zq9k2 => exact rfl); k_whole))
  k_with "exec For Name Subscript cons nil" => (k_dflt (walk_at "for enter"))
  k_with "exec For Name Name cons nil" => (k_dflt (walk_at "for enter"))
  k_with "exec For Name Call cons nil" => (k_dflt (walk_at "for enter"))
  k_with "pyIter ref" => (k_dflt (k_extra "for"))
  k_with "exec Raise some none" => (k_dflt (k_extra "raise die"))
  k_with "turn enter" => (refine' code_turn ?zq9k1 ?zq9k2 ?zq9k3 ?zq9k5 ?zq9kD ?zq9kA ?zq9kF ?zq9kK ?zq9k6 ?zq9k7 ?zq9k8 ?zq9k9 ?zq9kB ?_ ?zq9c2 ?zq9c3 ?zq9c4 ?zq9c5; (case zq9kA => exact rfl); (case zq9kF => exact rfl); (case zq9kK => assumption); (case zq9k1 => k_asm); (case zq9k2 => k_asm); (case zq9k3 => k_asm); (case zq9k5 => k_asm); (case zq9kD => k_asm); (case zq9k6 => k_is); (case zq9k7 => k_is); (case zq9k8 => ktr_room); (case zq9k9 => exact BindsTo.of_eq rfl); (case zq9c5 => decide); (case zq9kB => exact locs rfl); (case zq9c2 => exact rfl); (case zq9c3 => exact rfl); (case zq9c4 => exact rfl); k_whole; intro L' h' F' N' B' X' T' D'; (try dsimp only); (try k_lift B'); (try k_fold))
  k_with "LeaveT" => (k_dflt (refine' leaveT_ ?zq9T9 ?zq9F9 ?_; (case zq9F9 => k_asm); (case zq9T9 => first | exact KtsTurn.refl | assumption)); intro tT; (try dsimp only))
  k_with "new pair" => (intro l' t' u' h' tk' F' N' l1; (try simp only [AllNe, and_true] at l1); (try k_sweep); (try dsimp only); (try k_fold))
  k_with "new ints" => (intro l' vs' n' h' tk' F' N' l1 hI'; (try simp only [AllNe, and_true] at l1); (try k_sweep); (try dsimp only); (try k_fold))
  k_with "grow turn" => (intro gVs gNs gK gPre gT gU gH gTk gI gIt gLt gCls l1 gIs gP gF gN; (try k_lt l1); have kM := kstMark; (try k_fold))
  k_with "grow done" => (intro gVs gNs gK gU gH gTk gI gP gF gN; have kM := kstMark; (try k_fold))
  k_with "eval Call" => (ktd_said "call"; k_here; k_dflt (refine Call_ ?_))
  k_with "new int" => (intro u' h' tk' F' N'; (try k_sweep); (try dsimp only); (try k_fold))
  k_with "eval BinOp" => (k_dflt (k_extra "fact"))
  k_with "new bool" => (intro h' tk' F' N'; (try k_sweep); (try dsimp only); (try k_fold))
  k_with "call builtin:list.extend" => (k_here; (with_reducible show wpAny _ _ (call (Value.builtin _) [Value.ref _, Value.ref _]) _ _ _); k_dflt (refine' my_extend ?zq9F ?zq9N ?zq9b ?zq9U ?zq9ne ?zq9z ?_; (case zq9F => k_asm); (case zq9N => k_asm); (case zq9b => k_mem); (case zq9U => k_upd); (case zq9ne => walk_at "sz"); (case zq9z => walk_at "sz")); intro h' F' N'; (try k_sweep))
  k_with "op line" => (intro opX opE; (try simp only [bitAnd_m1, bitAnd_m4, bitAnd_m6, bitAnd_m7, bitAnd_m8, Int.reduceToNat, Int.reducePow] at opE); (try k_dflt (k_extra "op")))
  k_with "call builtin:min" => ((with_reducible show wpAny _ _ (call (Value.builtin _) [Value.int _ _, Value.int _ _]) _ _ _); ktd_said "min"; (with_reducible rename News _ _ _ _ => N'); (with_unfolding_all apply min_two_N); (case hh => with_unfolding_all rfl); (case N => exact N'); (case F => assumption); clear N'; intro _ _ _ _; k_dflt (k_extra "min"))
  k_with "kmk size line" => ((refine kmk_sz (by l_ints) ?_; rw [PySem.sizeLine_eq]; omega))
  k_with "InvEndN" => (k_dflt kst_close)
  k_with "ite" => (k_here; k_closed; k_dflt (first | refine ite_pos (by decide) ?_ | refine ite_neg (by decide) ?_))
  k_with "sz" => ((simp only [List.size_toArray, Array.size_append, Array.size_push, Array.length_toList, List.length_append, List.length_cons, List.length_nil, List.length_reverse, List.length_map, PySem.sizeLine_eq]); first | omega | (law_lens; omega))
  k_with "kmk nums line" => (first | ((with_reducible refine' kmk_run ?zq9ka ?zq9kb ?zq9kc); (case zq9ka => l_ints); (case zq9kb => kmk_sign); (case zq9kc => kmk_sign)) | ((with_reducible refine' kmk_from ?zq9ka ?zq9kb); (case zq9ka => l_ints); (case zq9kb => kmk_sign)) | ((with_reducible refine' kmk_upto ?zq9ka ?zq9kb); (case zq9ka => l_ints); (case zq9kb => kmk_sign)) | ((with_reducible refine' kmk_upto_neg ?zq9ka ?zq9kb); (case zq9ka => l_ints); (case zq9kb => kmk_sign)))
  k_with "k ne line" => ((refine neN ?_; (try dsimp only); with_reducible first | assumption | exact Ne.symm (by assumption) | exact Nat.ne_of_lt (by assumption) | exact Nat.ne_of_gt (by assumption)))
  k_with "execs cons" => ((with_reducible refine Mine.execs_seq ?_); intro qk)
  k_dflt walk_at "pure enter"
  (k_with "while" => (k_while (fun _ k row => row.length ≤ 10 ∧ BerInv n k row) (fun _ k _ => k.toNat) "n" "row"))
  (k_with "state" => (refine BerInv.len ?_; (first | exact ber_start h0 h1 (by assumption) (by assumption) | exact ber_turn (by assumption) (by omega) h1 (by assumption) (by assumption) (by assumption))))
  (k_with "measure" => (simp only [decide_eq_true_eq] at *; omega))
  (repeat' (first | ((with_reducible first | refine Mine.seq_nil ?_ | refine Mine.seq_next ?_ | refine Mine.seq_ret ?_); (try dsimp only)) | (k_unfold; (try dsimp only)) | (k_end; kc_close) | walk1 | (dsimp only; walk1) | (leave1; walk_say "STEP leave1"; try dsimp only) | fail "no step"))
  refine pcall_ret hret (by assumption) ?_
  rw [← ber_done (n := n) (by assumption) (by omega)]
  exact newInts_of (by assumption) (List.Mem.head _) (IntsAre.reverse (by assumption))
end Mine
-- R2
open PySem PySem.W PyProof.Rows PySem.Calls PySem.Spec
namespace Mine
set_option maxHeartbeats 8000000 in
theorem utf_c (w : World) (n : Int) (t : Tok) (h0 : 0 ≤ n) (h1 : n < 2 ^ 31) : PCall w 5 74 [.int n t] (fun _ => True) (fun h₀ h r => NewInts h₀ h r (utf n)) := by
  unfold PCall prg
  k_fill
  intro mean mg mb dp un gd cn cs aC ccd cl outer A₀ base h₀ L m s Q E hB hF hX hT hK hDp hUn hpre hret
  refine wpAny_call ?_
  k_with_none
  k_with "op line" => (intro opX opE; (try simp only [bitAnd_m1, bitAnd_m4, bitAnd_m6, bitAnd_m7, bitAnd_m8, Int.reduceToNat, Int.reducePow] at opE))
  k_with "binaryOp BitAnd int int" => (k_here; (fail_if_success (with_reducible show wpAny _ _ (binaryOp _ (Value.int (OfNat.ofNat _) _) (Value.int (OfNat.ofNat _) _)) _ _ _)); (with_reducible refine o_and ?_); walk_at "op line")
  k_with "inplaceOp BitAnd int int" => (k_here; (fail_if_success (with_reducible show wpAny _ _ (inplaceOp _ (Value.int (OfNat.ofNat _) _) (Value.int (OfNat.ofNat _) _)) _ _ _)); (with_reducible refine o_iand ?_); walk_at "op line")
  k_with "binaryOp BitOr int int" => (k_here; (fail_if_success (with_reducible show wpAny _ _ (binaryOp _ (Value.int (OfNat.ofNat _) _) (Value.int (OfNat.ofNat _) _)) _ _ _)); (with_reducible refine o_or ?_); walk_at "op line")
  k_with "inplaceOp BitOr int int" => (k_here; (fail_if_success (with_reducible show wpAny _ _ (inplaceOp _ (Value.int (OfNat.ofNat _) _) (Value.int (OfNat.ofNat _) _)) _ _ _)); (with_reducible refine o_ior ?_); walk_at "op line")
  k_with "binaryOp RShift int int" => (k_here; (fail_if_success (with_reducible show wpAny _ _ (binaryOp _ (Value.int (OfNat.ofNat _) _) (Value.int (OfNat.ofNat _) _)) _ _ _)); (with_reducible refine o_rsh ?zq9kb1 ?_); (case zq9kb1 => l_bnd); walk_at "op line")
  k_with "inplaceOp RShift int int" => (k_here; (fail_if_success (with_reducible show wpAny _ _ (inplaceOp _ (Value.int (OfNat.ofNat _) _) (Value.int (OfNat.ofNat _) _)) _ _ _)); (with_reducible refine o_irsh ?zq9kb1 ?_); (case zq9kb1 => l_bnd); walk_at "op line")
  k_with "binaryOp LShift int int" => (k_here; (fail_if_success (with_reducible show wpAny _ _ (binaryOp _ (Value.int (OfNat.ofNat _) _) (Value.int (OfNat.ofNat _) _)) _ _ _)); (with_reducible refine o_lsh ?zq9kb1 ?zq9kb2 ?zq9kb3 ?_); (case zq9kb1 => l_bnd); (case zq9kb2 => l_bnd); (case zq9kb3 => l_bnd); walk_at "op line")
  k_with "pure enter" => (refine' code_pure ?zq9k1 ?zq9k2 ?zq9k3 ?zq9k5 ?zq9kA ?zq9kF ?zq9kK ?zq9k6 ?zq9k7 ?zq9k8 ?zq9k9 ?zq9kB ?_ ?zq9c2 ?zq9c3 ?zq9c4 ?zq9c5; (case zq9kA => exact rfl); (case zq9kF => exact rfl); (case zq9kK => assumption); (case zq9k1 => k_asm); (case zq9k2 => k_asm); (case zq9k3 => k_asm); (case zq9k5 => k_asm); (case zq9k6 => k_is); (case zq9k7 => k_is); (case zq9k8 => ktr_room); (case zq9k9 => exact BindsTo.of_eq rfl); (case zq9c5 => decide); (case zq9kB => exact locs rfl); (case zq9c2 => exact rfl); (case zq9c3 => exact rfl); (case zq9c4 => exact rfl); k_whole; intro L' h' F' N' B' X' T'; (try dsimp only); (try k_lift B'); (try k_fold))
  k_with "passes own line" => (with_reducible exact PySem.PassesOwn.leaving)
  k_with "kst facts1 line" => (first | with_reducible assumption | ((repeat (with_reducible refine IntsAre.cons _ _ ?_)); with_reducible exact IntsAre.nil) | exact IntsAre.append (by with_reducible assumption) (by with_reducible assumption) | exact IntsAre.append (by kst_facts1) (IntsAre.cons _ _ IntsAre.nil) | exact IntsAre.append (by kst_facts1) (IntsAre.cons _ _ (IntsAre.cons _ _ (IntsAre.cons _ _ IntsAre.nil))))
  k_with "sz" => ((try law_lens); (try simp only [List.size_toArray, Array.size_append, Array.size_push, Array.length_toList, List.length_append, List.length_cons, List.length_nil, List.length_reverse, List.length_map, PySem.sizeLine_eq] at *); omega)
  k_with "call builtin:list.reverse" => (k_here; (with_reducible show wpAny _ _ (call (Value.builtin _) [Value.ref _]) _ _ _); k_dflt (refine' kl_reverse ?zq9F ?zq9N ?zq9e ?zq9U ?zq9z ?_; (case zq9F => k_asm); (case zq9N => k_asm); (case zq9e => exact rfl); (case zq9U => k_upd); (case zq9z => walk_at "sz")); intro h' F' N'; (try k_sweep))
  k_with "all and" => ((repeat' (with_reducible apply And.intro)) <;> first | trivial | assumption | omega)
  k_with "exec While Compare cons nil" => (k_dflt (k_extra "while"))
  k_with "exec While BoolOp cons nil" => (k_dflt (k_extra "while"))
  k_with "exec While" => (k_dflt (k_extra "while"))
  k_with "use side" => ((case k1 => k_asm); (case k2 => k_asm); (case k3 => k_asm); (case k4 => k_asm); (case k5 => k_asm); (case kK => first | exact rfl | assumption); (case kd => ktr_room); (case ku => ktr_units))
  k_with "use new" => ((try simp only [AllNe, and_true] at l1); (try k_sweep); (try dsimp only); (try k_fold))
  k_with "is list" => first | exact trivial | assumption | exact News.isList (by k_asm) (by k_mem) | exact stays_list (Fr.keep (by k_asm)) (by assumption)
  k_with "call ref" => (k_dflt (k_extra "call"))
  k_with "exec Raise some none" => (k_dflt (exfalso; k_extra "raise"))
  k_with "for enter" => (ktd_said "for"; k_here; (rename Fr _ _ _ _ => lF'); (with_unfolding_all refine' For_invVF lF' ?zq9k1 ?zq9k2 ?_; (case zq9k1 => exact rfl); (case zq9k2 => exact rfl); k_whole))
  k_with "exec For Name Subscript cons nil" => (k_dflt (walk_at "for enter"))
  k_with "exec For Name Name cons nil" => (k_dflt (walk_at "for enter"))
  k_with "exec For Name Call cons nil" => (k_dflt (walk_at "for enter"))
  k_with "pyIter ref" => (k_dflt (k_extra "for"))
  k_with "exec Raise some none" => (k_dflt (k_extra "raise die"))
  k_with "turn enter" => (refine' code_turn ?zq9k1 ?zq9k2 ?zq9k3 ?zq9k5 ?zq9kD ?zq9kA ?zq9kF ?zq9kK ?zq9k6 ?zq9k7 ?zq9k8 ?zq9k9 ?zq9kB ?_ ?zq9c2 ?zq9c3 ?zq9c4 ?zq9c5; (case zq9kA => exact rfl); (case zq9kF => exact rfl); (case zq9kK => assumption); (case zq9k1 => k_asm); (case zq9k2 => k_asm); (case zq9k3 => k_asm); (case zq9k5 => k_asm); (case zq9kD => k_asm); (case zq9k6 => k_is); (case zq9k7 => k_is); (case zq9k8 => ktr_room); (case zq9k9 => exact BindsTo.of_eq rfl); (case zq9c5 => decide); (case zq9kB => exact locs rfl); (case zq9c2 => exact rfl); (case zq9c3 => exact rfl); (case zq9c4 => exact rfl); k_whole; intro L' h' F' N' B' X' T' D'; (try dsimp only); (try k_lift B'); (try k_fold))
  k_with "LeaveT" => (k_dflt (refine' leaveT_ ?zq9T9 ?zq9F9 ?_; (case zq9F9 => k_asm); (case zq9T9 => first | exact KtsTurn.refl | assumption)); intro tT; (try dsimp only))
  k_with "new pair" => (intro l' t' u' h' tk' F' N' l1; (try simp only [AllNe, and_true] at l1); (try k_sweep); (try dsimp only); (try k_fold))
  k_with "new ints" => (intro l' vs' n' h' tk' F' N' l1 hI'; (try simp only [AllNe, and_true] at l1); (try k_sweep); (try dsimp only); (try k_fold))
  k_with "grow turn" => (intro gVs gNs gK gPre gT gU gH gTk gI gIt gLt gCls l1 gIs gP gF gN; (try k_lt l1); have kM := kstMark; (try k_fold))
  k_with "grow done" => (intro gVs gNs gK gU gH gTk gI gP gF gN; have kM := kstMark; (try k_fold))
  k_with "eval Call" => (ktd_said "call"; k_here; k_dflt (refine Call_ ?_))
  k_with "new int" => (intro u' h' tk' F' N'; (try k_sweep); (try dsimp only); (try k_fold))
  k_with "eval BinOp" => (k_dflt (k_extra "fact"))
  k_with "new bool" => (intro h' tk' F' N'; (try k_sweep); (try dsimp only); (try k_fold))
  k_with "call builtin:list.extend" => (k_here; (with_reducible show wpAny _ _ (call (Value.builtin _) [Value.ref _, Value.ref _]) _ _ _); k_dflt (refine' my_extend ?zq9F ?zq9N ?zq9b ?zq9U ?zq9ne ?zq9z ?_; (case zq9F => k_asm); (case zq9N => k_asm); (case zq9b => k_mem); (case zq9U => k_upd); (case zq9ne => walk_at "sz"); (case zq9z => walk_at "sz")); intro h' F' N'; (try k_sweep))
  k_with "op line" => (intro opX opE; (try simp only [bitAnd_m1, bitAnd_m4, bitAnd_m6, bitAnd_m7, bitAnd_m8, Int.reduceToNat, Int.reducePow] at opE); (try k_dflt (k_extra "op")))
  k_with "call builtin:min" => ((with_reducible show wpAny _ _ (call (Value.builtin _) [Value.int _ _, Value.int _ _]) _ _ _); ktd_said "min"; (with_reducible rename News _ _ _ _ => N'); (with_unfolding_all apply min_two_N); (case hh => with_unfolding_all rfl); (case N => exact N'); (case F => assumption); clear N'; intro _ _ _ _; k_dflt (k_extra "min"))
  k_with "kmk size line" => ((refine kmk_sz (by l_ints) ?_; rw [PySem.sizeLine_eq]; omega))
  k_with "InvEndN" => (k_dflt kst_close)
  k_with "ite" => (k_here; k_closed; k_dflt (first | refine ite_pos (by decide) ?_ | refine ite_neg (by decide) ?_))
  k_with "sz" => ((simp only [List.size_toArray, Array.size_append, Array.size_push, Array.length_toList, List.length_append, List.length_cons, List.length_nil, List.length_reverse, List.length_map, PySem.sizeLine_eq]); first | omega | (law_lens; omega))
  k_with "kmk nums line" => (first | ((with_reducible refine' kmk_run ?zq9ka ?zq9kb ?zq9kc); (case zq9ka => l_ints); (case zq9kb => kmk_sign); (case zq9kc => kmk_sign)) | ((with_reducible refine' kmk_from ?zq9ka ?zq9kb); (case zq9ka => l_ints); (case zq9kb => kmk_sign)) | ((with_reducible refine' kmk_upto ?zq9ka ?zq9kb); (case zq9ka => l_ints); (case zq9kb => kmk_sign)) | ((with_reducible refine' kmk_upto_neg ?zq9ka ?zq9kb); (case zq9ka => l_ints); (case zq9kb => kmk_sign)))
  k_with "k ne line" => ((refine neN ?_; (try dsimp only); with_reducible first | assumption | exact Ne.symm (by assumption) | exact Nat.ne_of_lt (by assumption) | exact Nat.ne_of_gt (by assumption)))
  k_with "execs cons" => ((with_reducible refine Mine.execs_seq ?_); intro qk)
  k_dflt walk_at "pure enter"
  (k_with "while" => (k_while (fun _ code room row => row.length ≤ 5 ∧ 0 ≤ code ∧ code < 2 ^ 31 ∧ 2 ≤ room ∧ room ≤ 64 ∧ UtfInv n code room row) (fun _ code _ _ => code.toNat) "code" "room" "row"))
  (k_with "state" => (refine UtfInv.code ?_ h0 h1; (first | exact utf_start | exact utf_turn (by assumption) h0 h1 (by omega) (by assumption) (by assumption) (by assumption) (by omega))))
  (k_with "measure" => (omega))
  (repeat' (first | ((with_reducible first | refine Mine.seq_nil ?_ | refine Mine.seq_next ?_ | refine Mine.seq_ret ?_); (try dsimp only)) | (k_unfold; (try dsimp only)) | (k_end; kc_close) | walk1 | (dsimp only; walk1) | (leave1; walk_say "STEP leave1"; try dsimp only) | fail "no step"))
  all_goals refine pcall_ret hret (by assumption) ?_
  · rw [show utf n = [n] from if_pos (by omega)]
    exact newInts_of (by assumption) (List.Mem.head _) (.cons _ _ .nil)
  · have e := utf_done (n := n) (by assumption) (by omega) h1 (by omega) (by assumption) (by assumption) (by assumption)
    rw [← e]
    (rename News s.heap _ _ _ => hN; simp only [List.push_toArray, List.toList_toArray] at hN)
    exact newInts_of hN (List.Mem.head _) (IntsAre.reverse (IntsAre.append (by assumption) (.cons _ _ .nil)))
end Mine
-- R3
open PySem PySem.W PyProof.Rows PySem.Calls PySem.Spec
namespace Mine
set_option maxHeartbeats 8000000 in
theorem rber_c (w : World) (l : Addr) (vs : List Value) (ns post : List Int) (a₀ n : Int) (t : Tok) (hI : IntsAre vs ns) (hlen : ns.length ≤ 1000000) (ha : 0 ≤ a₀) (h0 : 0 ≤ n) (h1 : n < 2 ^ 62) (hd : ns.drop a₀.toNat = ber n ++ post) :
    PCall w 5 67 [.ref l, .int a₀ t] (fun h => h.IsList l vs.toArray) (fun h₀ h r => NewPair h₀ h r n (a₀ + (ber n).length)) := by
  unfold PCall prg
  k_fill
  intro mean mg mb dp un gd cn cs aC ccd cl outer A₀ base h₀ L m s Q E hB hF hX hT hK hDp hUn hpre hret

  refine wpAny_call ?_
  k_with_none
  k_with "op line" => (intro opX opE; (try simp only [bitAnd_m1, bitAnd_m4, bitAnd_m6, bitAnd_m7, bitAnd_m8, Int.reduceToNat, Int.reducePow] at opE))
  k_with "binaryOp BitAnd int int" => (k_here; (fail_if_success (with_reducible show wpAny _ _ (binaryOp _ (Value.int (OfNat.ofNat _) _) (Value.int (OfNat.ofNat _) _)) _ _ _)); (with_reducible refine o_and ?_); walk_at "op line")
  k_with "inplaceOp BitAnd int int" => (k_here; (fail_if_success (with_reducible show wpAny _ _ (inplaceOp _ (Value.int (OfNat.ofNat _) _) (Value.int (OfNat.ofNat _) _)) _ _ _)); (with_reducible refine o_iand ?_); walk_at "op line")
  k_with "binaryOp BitOr int int" => (k_here; (fail_if_success (with_reducible show wpAny _ _ (binaryOp _ (Value.int (OfNat.ofNat _) _) (Value.int (OfNat.ofNat _) _)) _ _ _)); (with_reducible refine o_or ?_); walk_at "op line")
  k_with "inplaceOp BitOr int int" => (k_here; (fail_if_success (with_reducible show wpAny _ _ (inplaceOp _ (Value.int (OfNat.ofNat _) _) (Value.int (OfNat.ofNat _) _)) _ _ _)); (with_reducible refine o_ior ?_); walk_at "op line")
  k_with "binaryOp RShift int int" => (k_here; (fail_if_success (with_reducible show wpAny _ _ (binaryOp _ (Value.int (OfNat.ofNat _) _) (Value.int (OfNat.ofNat _) _)) _ _ _)); (with_reducible refine o_rsh ?zq9kb1 ?_); (case zq9kb1 => l_bnd); walk_at "op line")
  k_with "inplaceOp RShift int int" => (k_here; (fail_if_success (with_reducible show wpAny _ _ (inplaceOp _ (Value.int (OfNat.ofNat _) _) (Value.int (OfNat.ofNat _) _)) _ _ _)); (with_reducible refine o_irsh ?zq9kb1 ?_); (case zq9kb1 => l_bnd); walk_at "op line")
  k_with "binaryOp LShift int int" => (k_here; (fail_if_success (with_reducible show wpAny _ _ (binaryOp _ (Value.int (OfNat.ofNat _) _) (Value.int (OfNat.ofNat _) _)) _ _ _)); (with_reducible refine o_lsh ?zq9kb1 ?zq9kb2 ?zq9kb3 ?_); (case zq9kb1 => l_bnd); (case zq9kb2 => l_bnd); (case zq9kb3 => l_bnd); walk_at "op line")
  k_with "pure enter" => (refine' code_pure ?zq9k1 ?zq9k2 ?zq9k3 ?zq9k5 ?zq9kA ?zq9kF ?zq9kK ?zq9k6 ?zq9k7 ?zq9k8 ?zq9k9 ?zq9kB ?_ ?zq9c2 ?zq9c3 ?zq9c4 ?zq9c5; (case zq9kA => exact rfl); (case zq9kF => exact rfl); (case zq9kK => assumption); (case zq9k1 => k_asm); (case zq9k2 => k_asm); (case zq9k3 => k_asm); (case zq9k5 => k_asm); (case zq9k6 => k_is); (case zq9k7 => k_is); (case zq9k8 => ktr_room); (case zq9k9 => exact BindsTo.of_eq rfl); (case zq9c5 => decide); (case zq9kB => exact locs rfl); (case zq9c2 => exact rfl); (case zq9c3 => exact rfl); (case zq9c4 => exact rfl); k_whole; intro L' h' F' N' B' X' T'; (try dsimp only); (try k_lift B'); (try k_fold))
  k_with "passes own line" => (with_reducible exact PySem.PassesOwn.leaving)
  k_with "kst facts1 line" => (first | with_reducible assumption | ((repeat (with_reducible refine IntsAre.cons _ _ ?_)); with_reducible exact IntsAre.nil) | exact IntsAre.append (by with_reducible assumption) (by with_reducible assumption) | exact IntsAre.append (by kst_facts1) (IntsAre.cons _ _ IntsAre.nil) | exact IntsAre.append (by kst_facts1) (IntsAre.cons _ _ (IntsAre.cons _ _ (IntsAre.cons _ _ IntsAre.nil))))
  k_with "sz" => ((try law_lens); (try simp only [List.size_toArray, Array.size_append, Array.size_push, Array.length_toList, List.length_append, List.length_cons, List.length_nil, List.length_reverse, List.length_map, PySem.sizeLine_eq] at *); omega)
  k_with "call builtin:list.reverse" => (k_here; (with_reducible show wpAny _ _ (call (Value.builtin _) [Value.ref _]) _ _ _); k_dflt (refine' kl_reverse ?zq9F ?zq9N ?zq9e ?zq9U ?zq9z ?_; (case zq9F => k_asm); (case zq9N => k_asm); (case zq9e => exact rfl); (case zq9U => k_upd); (case zq9z => walk_at "sz")); intro h' F' N'; (try k_sweep))
  k_with "all and" => ((repeat' (with_reducible apply And.intro)) <;> first | trivial | assumption | omega)
  k_with "exec While Compare cons nil" => (k_dflt (k_extra "while"))
  k_with "exec While BoolOp cons nil" => (k_dflt (k_extra "while"))
  k_with "exec While" => (k_dflt (k_extra "while"))
  k_with "use side" => ((case k1 => k_asm); (case k2 => k_asm); (case k3 => k_asm); (case k4 => k_asm); (case k5 => k_asm); (case kK => first | exact rfl | assumption); (case kd => ktr_room); (case ku => ktr_units))
  k_with "use new" => ((try simp only [AllNe, and_true] at l1); (try k_sweep); (try dsimp only); (try k_fold))
  k_with "is list" => first | exact trivial | assumption | exact News.isList (by k_asm) (by k_mem) | exact stays_list (Fr.keep (by k_asm)) (by assumption)
  k_with "call ref" => (k_dflt (k_extra "call"))
  k_with "exec Raise some none" => (k_dflt (exfalso; k_extra "raise"))
  k_with "for enter" => (ktd_said "for"; k_here; (rename Fr _ _ _ _ => lF'); (with_unfolding_all refine' For_invVF lF' ?zq9k1 ?zq9k2 ?_; (case zq9k1 => exact rfl); (case zq9k2 => exact rfl); k_whole))
  k_with "exec For Name Subscript cons nil" => (k_dflt (walk_at "for enter"))
  k_with "exec For Name Name cons nil" => (k_dflt (walk_at "for enter"))
  k_with "exec For Name Call cons nil" => (k_dflt (walk_at "for enter"))
  k_with "pyIter ref" => (k_dflt (k_extra "for"))
  k_with "exec Raise some none" => (k_dflt (k_extra "raise die"))
  k_with "turn enter" => (refine' code_turn ?zq9k1 ?zq9k2 ?zq9k3 ?zq9k5 ?zq9kD ?zq9kA ?zq9kF ?zq9kK ?zq9k6 ?zq9k7 ?zq9k8 ?zq9k9 ?zq9kB ?_ ?zq9c2 ?zq9c3 ?zq9c4 ?zq9c5; (case zq9kA => exact rfl); (case zq9kF => exact rfl); (case zq9kK => assumption); (case zq9k1 => k_asm); (case zq9k2 => k_asm); (case zq9k3 => k_asm); (case zq9k5 => k_asm); (case zq9kD => k_asm); (case zq9k6 => k_is); (case zq9k7 => k_is); (case zq9k8 => ktr_room); (case zq9k9 => exact BindsTo.of_eq rfl); (case zq9c5 => decide); (case zq9kB => exact locs rfl); (case zq9c2 => exact rfl); (case zq9c3 => exact rfl); (case zq9c4 => exact rfl); k_whole; intro L' h' F' N' B' X' T' D'; (try dsimp only); (try k_lift B'); (try k_fold))
  k_with "LeaveT" => (k_dflt (refine' leaveT_ ?zq9T9 ?zq9F9 ?_; (case zq9F9 => k_asm); (case zq9T9 => first | exact KtsTurn.refl | assumption)); intro tT; (try dsimp only))
  k_with "new pair" => (intro l' t' u' h' tk' F' N' l1; (try simp only [AllNe, and_true] at l1); (try k_sweep); (try dsimp only); (try k_fold))
  k_with "new ints" => (intro l' vs' n' h' tk' F' N' l1 hI'; (try simp only [AllNe, and_true] at l1); (try k_sweep); (try dsimp only); (try k_fold))
  k_with "grow turn" => (intro gVs gNs gK gPre gT gU gH gTk gI gIt gLt gCls l1 gIs gP gF gN; (try k_lt l1); have kM := kstMark; (try k_fold))
  k_with "grow done" => (intro gVs gNs gK gU gH gTk gI gP gF gN; have kM := kstMark; (try k_fold))
  k_with "eval Call" => (ktd_said "call"; k_here; k_dflt (refine Call_ ?_))
  k_with "new int" => (intro u' h' tk' F' N'; (try k_sweep); (try dsimp only); (try k_fold))
  k_with "eval BinOp" => (k_dflt (k_extra "fact"))
  k_with "new bool" => (intro h' tk' F' N'; (try k_sweep); (try dsimp only); (try k_fold))
  k_with "call builtin:list.extend" => (k_here; (with_reducible show wpAny _ _ (call (Value.builtin _) [Value.ref _, Value.ref _]) _ _ _); k_dflt (refine' my_extend ?zq9F ?zq9N ?zq9b ?zq9U ?zq9ne ?zq9z ?_; (case zq9F => k_asm); (case zq9N => k_asm); (case zq9b => k_mem); (case zq9U => k_upd); (case zq9ne => walk_at "sz"); (case zq9z => walk_at "sz")); intro h' F' N'; (try k_sweep))
  k_with "op line" => (intro opX opE; (try simp only [bitAnd_m1, bitAnd_m4, bitAnd_m6, bitAnd_m7, bitAnd_m8, Int.reduceToNat, Int.reducePow] at opE); (try k_dflt (k_extra "op")))
  k_with "call builtin:min" => ((with_reducible show wpAny _ _ (call (Value.builtin _) [Value.int _ _, Value.int _ _]) _ _ _); ktd_said "min"; (with_reducible rename News _ _ _ _ => N'); (with_unfolding_all apply min_two_N); (case hh => with_unfolding_all rfl); (case N => exact N'); (case F => assumption); clear N'; intro _ _ _ _; k_dflt (k_extra "min"))
  k_with "kmk size line" => ((refine kmk_sz (by l_ints) ?_; rw [PySem.sizeLine_eq]; omega))
  k_with "InvEndN" => (k_dflt kst_close)
  k_with "ite" => (k_here; k_closed; k_dflt (first | refine ite_pos (by decide) ?_ | refine ite_neg (by decide) ?_))
  k_with "sz" => ((simp only [List.size_toArray, Array.size_append, Array.size_push, Array.length_toList, List.length_append, List.length_cons, List.length_nil, List.length_reverse, List.length_map, PySem.sizeLine_eq]); first | omega | (law_lens; omega))
  k_with "kmk nums line" => (first | ((with_reducible refine' kmk_run ?zq9ka ?zq9kb ?zq9kc); (case zq9ka => l_ints); (case zq9kb => kmk_sign); (case zq9kc => kmk_sign)) | ((with_reducible refine' kmk_from ?zq9ka ?zq9kb); (case zq9ka => l_ints); (case zq9kb => kmk_sign)) | ((with_reducible refine' kmk_upto ?zq9ka ?zq9kb); (case zq9ka => l_ints); (case zq9kb => kmk_sign)) | ((with_reducible refine' kmk_upto_neg ?zq9ka ?zq9kb); (case zq9ka => l_ints); (case zq9kb => kmk_sign)))
  k_with "k ne line" => ((refine neN ?_; (try dsimp only); with_reducible first | assumption | exact Ne.symm (by assumption) | exact Nat.ne_of_lt (by assumption) | exact Nat.ne_of_gt (by assumption)))
  k_with "execs cons" => ((with_reducible refine Mine.execs_seq ?_); intro qk)
  k_dflt walk_at "pure enter"
  (k_with "while" => (k_while (fun _ found i => 0 ≤ i ∧ i < ns.length ∧ 0 ≤ found ∧ found < 2 ^ 62 ∧ RberInv n a₀ found i) (fun _ _ i => (ns.length - i).toNat) "found" "at"))
  (k_with "state" => (first
    | ((obtain ⟨_, _, _, _, _⟩ := RberInv.bounds (rber_start (a₀ := a₀) h0 h1) hd ha h0 h1; walk_at "all and"))
    | ((rename ¬ (_ < (128:Int)) => hq9; rw [Int.add_sub_cancel] at hq9); rcases rber_step (by assumption) hd ha h0 rfl (by assumption) (by assumption) (by assumption) with ⟨_, _, _⟩ | ⟨_, q9⟩; (exfalso; omega); (obtain ⟨_, _, _, _, _⟩ := q9.bounds hd ha h0 h1; walk_at "all and"))))
  (k_with "measure" => (omega))
  (repeat' (first | ((with_reducible first | refine Mine.seq_nil ?_ | refine Mine.seq_next ?_ | refine Mine.seq_ret ?_); (try dsimp only)) | (k_unfold; (try dsimp only)) | (k_end; kc_close) | walk1 | (dsimp only; walk1) | (leave1; walk_say "STEP leave1"; try dsimp only) | fail "no step"))
  refine pcall_ret hret (by assumption) ?_
  (rename (_ < (128:Int)) => hq9; rw [Int.add_sub_cancel] at hq9)
  rcases rber_step (by assumption) hd ha h0 rfl (by assumption) (by assumption) (by assumption) with ⟨_, e1, e2⟩ | ⟨_, _⟩
  · (rename News s.heap _ _ _ => hN)
    have q := newPair_of hN (List.Mem.head _)
    rw [e1, e2] at q
    exact q
  · omega
end Mine
-- R4
open PySem PySem.W PyProof.Rows PySem.Calls PySem.Spec
namespace Mine
set_option maxHeartbeats 8000000 in
theorem rutf_c (w : World) (l : Addr) (vs : List Value) (ns post : List Int) (a₀ n : Int) (t : Tok) (hI : IntsAre vs ns) (hlen : ns.length ≤ 1000000) (hC : CodeAt ns a₀ n post) :
    PCall w 10 81 [.ref l, .int a₀ t] (fun h => h.IsList l vs.toArray) (fun h₀ h r => NewPair h₀ h r n (a₀ + (utf n).length)) := by
  unfold PCall prg
  k_fill
  intro mean mg mb dp un gd cn cs aC ccd cl outer A₀ base h₀ L m s Q E hB hF hX hT hK hDp hUn hpre hret
  have hR := kOf_range n
  obtain ⟨hb1, hb2⟩ := hC.bound
  have hL := hC.len
  obtain ⟨ha0, hn0, hn1⟩ := hC.2
  refine wpAny_call ?_
  k_with_none
  k_with "op line" => (intro opX opE; (try simp only [bitAnd_m1, bitAnd_m4, bitAnd_m6, bitAnd_m7, bitAnd_m8, Int.reduceToNat, Int.reducePow] at opE))
  k_with "binaryOp BitAnd int int" => (k_here; (fail_if_success (with_reducible show wpAny _ _ (binaryOp _ (Value.int (OfNat.ofNat _) _) (Value.int (OfNat.ofNat _) _)) _ _ _)); (with_reducible refine o_and ?_); walk_at "op line")
  k_with "inplaceOp BitAnd int int" => (k_here; (fail_if_success (with_reducible show wpAny _ _ (inplaceOp _ (Value.int (OfNat.ofNat _) _) (Value.int (OfNat.ofNat _) _)) _ _ _)); (with_reducible refine o_iand ?_); walk_at "op line")
  k_with "binaryOp BitOr int int" => (k_here; (fail_if_success (with_reducible show wpAny _ _ (binaryOp _ (Value.int (OfNat.ofNat _) _) (Value.int (OfNat.ofNat _) _)) _ _ _)); (with_reducible refine o_or ?_); walk_at "op line")
  k_with "inplaceOp BitOr int int" => (k_here; (fail_if_success (with_reducible show wpAny _ _ (inplaceOp _ (Value.int (OfNat.ofNat _) _) (Value.int (OfNat.ofNat _) _)) _ _ _)); (with_reducible refine o_ior ?_); walk_at "op line")
  k_with "binaryOp RShift int int" => (k_here; (fail_if_success (with_reducible show wpAny _ _ (binaryOp _ (Value.int (OfNat.ofNat _) _) (Value.int (OfNat.ofNat _) _)) _ _ _)); (with_reducible refine o_rsh ?zq9kb1 ?_); (case zq9kb1 => l_bnd); walk_at "op line")
  k_with "inplaceOp RShift int int" => (k_here; (fail_if_success (with_reducible show wpAny _ _ (inplaceOp _ (Value.int (OfNat.ofNat _) _) (Value.int (OfNat.ofNat _) _)) _ _ _)); (with_reducible refine o_irsh ?zq9kb1 ?_); (case zq9kb1 => l_bnd); walk_at "op line")
  k_with "binaryOp LShift int int" => (k_here; (fail_if_success (with_reducible show wpAny _ _ (binaryOp _ (Value.int (OfNat.ofNat _) _) (Value.int (OfNat.ofNat _) _)) _ _ _)); (with_reducible refine o_lsh ?zq9kb1 ?zq9kb2 ?zq9kb3 ?_); (case zq9kb1 => l_bnd); (case zq9kb2 => l_bnd); (case zq9kb3 => l_bnd); walk_at "op line")
  k_with "pure enter" => (refine' code_pure ?zq9k1 ?zq9k2 ?zq9k3 ?zq9k5 ?zq9kA ?zq9kF ?zq9kK ?zq9k6 ?zq9k7 ?zq9k8 ?zq9k9 ?zq9kB ?_ ?zq9c2 ?zq9c3 ?zq9c4 ?zq9c5; (case zq9kA => exact rfl); (case zq9kF => exact rfl); (case zq9kK => assumption); (case zq9k1 => k_asm); (case zq9k2 => k_asm); (case zq9k3 => k_asm); (case zq9k5 => k_asm); (case zq9k6 => k_is); (case zq9k7 => k_is); (case zq9k8 => ktr_room); (case zq9k9 => exact BindsTo.of_eq rfl); (case zq9c5 => decide); (case zq9kB => exact locs rfl); (case zq9c2 => exact rfl); (case zq9c3 => exact rfl); (case zq9c4 => exact rfl); k_whole; intro L' h' F' N' B' X' T'; (try dsimp only); (try k_lift B'); (try k_fold))
  k_with "passes own line" => (with_reducible exact PySem.PassesOwn.leaving)
  k_with "kst facts1 line" => (first | with_reducible assumption | ((repeat (with_reducible refine IntsAre.cons _ _ ?_)); with_reducible exact IntsAre.nil) | exact IntsAre.append (by with_reducible assumption) (by with_reducible assumption) | exact IntsAre.append (by kst_facts1) (IntsAre.cons _ _ IntsAre.nil) | exact IntsAre.append (by kst_facts1) (IntsAre.cons _ _ (IntsAre.cons _ _ (IntsAre.cons _ _ IntsAre.nil))))
  k_with "sz" => ((try law_lens); (try simp only [List.size_toArray, Array.size_append, Array.size_push, Array.length_toList, List.length_append, List.length_cons, List.length_nil, List.length_reverse, List.length_map, PySem.sizeLine_eq] at *); omega)
  k_with "call builtin:list.reverse" => (k_here; (with_reducible show wpAny _ _ (call (Value.builtin _) [Value.ref _]) _ _ _); k_dflt (refine' kl_reverse ?zq9F ?zq9N ?zq9e ?zq9U ?zq9z ?_; (case zq9F => k_asm); (case zq9N => k_asm); (case zq9e => exact rfl); (case zq9U => k_upd); (case zq9z => walk_at "sz")); intro h' F' N'; (try k_sweep))
  k_with "all and" => ((repeat' (with_reducible apply And.intro)) <;> first | trivial | assumption | omega)
  k_with "exec While Compare cons nil" => (k_dflt (k_extra "while"))
  k_with "exec While BoolOp cons nil" => (k_dflt (k_extra "while"))
  k_with "exec While" => (k_dflt (k_extra "while"))
  k_with "use side" => ((case k1 => k_asm); (case k2 => k_asm); (case k3 => k_asm); (case k4 => k_asm); (case k5 => k_asm); (case kK => first | exact rfl | assumption); (case kd => ktr_room); (case ku => ktr_units))
  k_with "use new" => ((try simp only [AllNe, and_true] at l1); (try k_sweep); (try dsimp only); (try k_fold))
  k_with "is list" => first | exact trivial | assumption | exact News.isList (by k_asm) (by k_mem) | exact stays_list (Fr.keep (by k_asm)) (by assumption)
  k_with "call ref" => (k_dflt (k_extra "call"))
  k_with "exec Raise some none" => (k_dflt (exfalso; k_extra "raise"))
  k_with "for enter" => (ktd_said "for"; k_here; (rename Fr _ _ _ _ => lF'); (with_unfolding_all refine' For_invVF lF' ?zq9k1 ?zq9k2 ?_; (case zq9k1 => exact rfl); (case zq9k2 => exact rfl); k_whole))
  k_with "exec For Name Subscript cons nil" => (k_dflt (walk_at "for enter"))
  k_with "exec For Name Name cons nil" => (k_dflt (walk_at "for enter"))
  k_with "exec For Name Call cons nil" => (k_dflt (walk_at "for enter"))
  k_with "pyIter ref" => (k_dflt (k_extra "for"))
  k_with "exec Raise some none" => (k_dflt (k_extra "raise die"))
  k_with "turn enter" => (refine' code_turn ?zq9k1 ?zq9k2 ?zq9k3 ?zq9k5 ?zq9kD ?zq9kA ?zq9kF ?zq9kK ?zq9k6 ?zq9k7 ?zq9k8 ?zq9k9 ?zq9kB ?_ ?zq9c2 ?zq9c3 ?zq9c4 ?zq9c5; (case zq9kA => exact rfl); (case zq9kF => exact rfl); (case zq9kK => assumption); (case zq9k1 => k_asm); (case zq9k2 => k_asm); (case zq9k3 => k_asm); (case zq9k5 => k_asm); (case zq9kD => k_asm); (case zq9k6 => k_is); (case zq9k7 => k_is); (case zq9k8 => ktr_room); (case zq9k9 => exact BindsTo.of_eq rfl); (case zq9c5 => decide); (case zq9kB => exact locs rfl); (case zq9c2 => exact rfl); (case zq9c3 => exact rfl); (case zq9c4 => exact rfl); k_whole; intro L' h' F' N' B' X' T' D'; (try dsimp only); (try k_lift B'); (try k_fold))
  k_with "LeaveT" => (k_dflt (refine' leaveT_ ?zq9T9 ?zq9F9 ?_; (case zq9F9 => k_asm); (case zq9T9 => first | exact KtsTurn.refl | assumption)); intro tT; (try dsimp only))
  k_with "new pair" => (intro l' t' u' h' tk' F' N' l1; (try simp only [AllNe, and_true] at l1); (try k_sweep); (try dsimp only); (try k_fold))
  k_with "new ints" => (intro l' vs' n' h' tk' F' N' l1 hI'; (try simp only [AllNe, and_true] at l1); (try k_sweep); (try dsimp only); (try k_fold))
  k_with "grow turn" => (intro gVs gNs gK gPre gT gU gH gTk gI gIt gLt gCls l1 gIs gP gF gN; (try k_lt l1); have kM := kstMark; (try k_fold))
  k_with "grow done" => (intro gVs gNs gK gU gH gTk gI gP gF gN; have kM := kstMark; (try k_fold))
  k_with "eval Call" => (ktd_said "call"; k_here; k_dflt (refine Call_ ?_))
  k_with "new int" => (intro u' h' tk' F' N'; (try k_sweep); (try dsimp only); (try k_fold))
  k_with "eval BinOp" => (k_dflt (k_extra "fact"))
  k_with "new bool" => (intro h' tk' F' N'; (try k_sweep); (try dsimp only); (try k_fold))
  k_with "call builtin:list.extend" => (k_here; (with_reducible show wpAny _ _ (call (Value.builtin _) [Value.ref _, Value.ref _]) _ _ _); k_dflt (refine' my_extend ?zq9F ?zq9N ?zq9b ?zq9U ?zq9ne ?zq9z ?_; (case zq9F => k_asm); (case zq9N => k_asm); (case zq9b => k_mem); (case zq9U => k_upd); (case zq9ne => walk_at "sz"); (case zq9z => walk_at "sz")); intro h' F' N'; (try k_sweep))
  k_with "op line" => (intro opX opE; (try simp only [bitAnd_m1, bitAnd_m4, bitAnd_m6, bitAnd_m7, bitAnd_m8, Int.reduceToNat, Int.reducePow] at opE); (try k_dflt (k_extra "op")))
  k_with "call builtin:min" => ((with_reducible show wpAny _ _ (call (Value.builtin _) [Value.int _ _, Value.int _ _]) _ _ _); ktd_said "min"; (with_reducible rename News _ _ _ _ => N'); (with_unfolding_all apply min_two_N); (case hh => with_unfolding_all rfl); (case N => exact N'); (case F => assumption); clear N'; intro _ _ _ _; k_dflt (k_extra "min"))
  k_with "kmk size line" => ((refine kmk_sz (by l_ints) ?_; rw [PySem.sizeLine_eq]; omega))
  k_with "InvEndN" => (k_dflt kst_close)
  k_with "ite" => (k_here; k_closed; k_dflt (first | refine ite_pos (by decide) ?_ | refine ite_neg (by decide) ?_))
  k_with "sz" => ((simp only [List.size_toArray, Array.size_append, Array.size_push, Array.length_toList, List.length_append, List.length_cons, List.length_nil, List.length_reverse, List.length_map, PySem.sizeLine_eq]); first | omega | (law_lens; omega))
  k_with "kmk nums line" => (first | ((with_reducible refine' kmk_run ?zq9ka ?zq9kb ?zq9kc); (case zq9ka => l_ints); (case zq9kb => kmk_sign); (case zq9kc => kmk_sign)) | ((with_reducible refine' kmk_from ?zq9ka ?zq9kb); (case zq9ka => l_ints); (case zq9kb => kmk_sign)) | ((with_reducible refine' kmk_upto ?zq9ka ?zq9kb); (case zq9ka => l_ints); (case zq9kb => kmk_sign)) | ((with_reducible refine' kmk_upto_neg ?zq9ka ?zq9kb); (case zq9ka => l_ints); (case zq9kb => kmk_sign)))
  k_with "k ne line" => ((refine neN ?_; (try dsimp only); with_reducible first | assumption | exact Ne.symm (by assumption) | exact Nat.ne_of_lt (by assumption) | exact Nat.ne_of_gt (by assumption)))
  k_with "execs cons" => ((with_reducible refine Mine.execs_seq ?_); intro qk)
  k_dflt walk_at "pure enter"
  (k_with "execs nil" => ((dsimp only); (try k_gentoks)))
  (k_with "while" => (k_while (fun _ size => 2 ≤ size ∧ size ≤ (kOf n : Int) + 1) (fun _ size => (7 - size).toNat) "size"))
  (k_with "for" => ((have hS9 := hC.size (by assumption) (by assumption) (by assumption) (by omega) (by assumption) (by assumption)); k_state (fun pre code => 0 ≤ code ∧ code < 2 ^ 31 ∧ CodeInv n (kOf n) pre code) "code"))
  (k_with "state" => first
    | (walk_at "all and")
    | (have q9 := hC.more (by assumption) (by assumption) (by assumption) (by omega) (by assumption) (by assumption); walk_at "all and")
    | (obtain ⟨_, _, _⟩ := CodeInv.bounds (hC.start (by assumption) (by assumption) (by assumption)) (by omega) (by omega); walk_at "all and")
    | (obtain ⟨_, _, _⟩ := CodeInv.bounds (hC.turn (by assumption) (by assumption) (by assumption) (by assumption) (by assumption) (by assumption)) (by omega) (by omega); walk_at "all and"))
  (k_with "raise" => first
    | (have q9 := hC.done (by assumption) (by assumption); have q8 := hC.whole (by assumption); rename ¬ (utf _ = _) => q7; rw [q9, q8] at q7; exact q7 rfl)
    | (have q9 := hC.digit (by assumption) (by assumption) (by assumption); omega))
  (k_with "measure" => (omega))
  (k_with "call" => ((refine' use_ints (utf_c w _ _ ?c1 ?c2) ?k1 ?k2 ?k3 ?k4 ?k5 ?kK ?kd ?ku ?kp ?_); (case kp => trivial); (case c1 => omega); (case c2 => omega); walk_at "use side"; walk_at "new ints"))
  (repeat' (first | ((with_reducible first | refine Mine.seq_nil ?_ | refine Mine.seq_next ?_ | refine Mine.seq_ret ?_); (try dsimp only)) | (k_unfold; (try dsimp only)) | (k_end; kc_close) | walk1 | (dsimp only; walk1) | (leave1; walk_say "STEP leave1"; try dsimp only) | fail "no step"))
  refine pcall_ret hret (by assumption) ?_
  (rename News s.heap _ _ _ => hN)
  have q := newPair_of hN (List.Mem.head _)
  (rename (_ = ((kOf n : Nat) : Int) + 1) => hS)
  have q9 := hC.done hS (by assumption)
  rw [q9, hS] at q
  rw [utf_len hn0]
  exact q
end Mine
-- R5
open PySem PySem.W PyProof.Rows PySem.Calls PySem.Spec
namespace Mine
set_option maxHeartbeats 8000000 in
theorem rutf_dies (w : World) (l : Addr) (vs : List Value) (ns : List Int) (a₀ : Int) (t : Tok) (hI : IntsAre vs ns) (hlen : ns.length ≤ 1000000) (ha : 0 ≤ a₀) (ha2 : a₀ < ns.length) (hf : 128 ≤ ns.getD a₀.toNat 0) (hf2 : ns.getD a₀.toNat 0 < 192)
    {mean : ExcName → Option Value} {mg mb : Str → Option Value} {dp un : Nat} {gd : Option (List Code)} {cn : Str} {cs : Scope} {aC : Addr} {ccd : Value} {cl : List (Str × Addr)} {outer : List Env} {A₀ : Around} {base h₀ : Heap} {L : Addr} {m : Str → Option Value} {s : Shared} {Q E : Value → Shared → Prop}
    (hB : Below A₀ base outer h₀) (hF : Fr h₀ L s.heap m) (hX : (Mine.frag w.params).In h₀) (hT : Top Mine.view lks mean mg mb h₀) (hK : cs.kind = .function) (hDp : dp + 30 < recursionLimit) (hUn : un + 300 < cLine) (hpre : s.heap.IsList l vs.toArray)
    (hE : ∀ e h' tk', RaisedSN base s.heap (envX cn cs L aC ccd cl :: outer) e (.ref 51) [] h' → s.heap.UpToSlots h' → E (.ref e) { s with heap := h', toks := tk' }) :
    wpAny (model prg w) (ktrTop dp un gd cn cs L aC ccd cl outer) (call (.ref 81) [.ref l, .int a₀ t]) Q E s := by
  unfold prg
  revert hX
  k_fill
  intro hX
  refine wpAny_call ?_
  k_with_none
  k_with "op line" => (intro opX opE; (try simp only [bitAnd_m1, bitAnd_m4, bitAnd_m6, bitAnd_m7, bitAnd_m8, Int.reduceToNat, Int.reducePow] at opE))
  k_with "binaryOp BitAnd int int" => (k_here; (fail_if_success (with_reducible show wpAny _ _ (binaryOp _ (Value.int (OfNat.ofNat _) _) (Value.int (OfNat.ofNat _) _)) _ _ _)); (with_reducible refine o_and ?_); walk_at "op line")
  k_with "inplaceOp BitAnd int int" => (k_here; (fail_if_success (with_reducible show wpAny _ _ (inplaceOp _ (Value.int (OfNat.ofNat _) _) (Value.int (OfNat.ofNat _) _)) _ _ _)); (with_reducible refine o_iand ?_); walk_at "op line")
  k_with "binaryOp BitOr int int" => (k_here; (fail_if_success (with_reducible show wpAny _ _ (binaryOp _ (Value.int (OfNat.ofNat _) _) (Value.int (OfNat.ofNat _) _)) _ _ _)); (with_reducible refine o_or ?_); walk_at "op line")
  k_with "inplaceOp BitOr int int" => (k_here; (fail_if_success (with_reducible show wpAny _ _ (inplaceOp _ (Value.int (OfNat.ofNat _) _) (Value.int (OfNat.ofNat _) _)) _ _ _)); (with_reducible refine o_ior ?_); walk_at "op line")
  k_with "binaryOp RShift int int" => (k_here; (fail_if_success (with_reducible show wpAny _ _ (binaryOp _ (Value.int (OfNat.ofNat _) _) (Value.int (OfNat.ofNat _) _)) _ _ _)); (with_reducible refine o_rsh ?zq9kb1 ?_); (case zq9kb1 => l_bnd); walk_at "op line")
  k_with "inplaceOp RShift int int" => (k_here; (fail_if_success (with_reducible show wpAny _ _ (inplaceOp _ (Value.int (OfNat.ofNat _) _) (Value.int (OfNat.ofNat _) _)) _ _ _)); (with_reducible refine o_irsh ?zq9kb1 ?_); (case zq9kb1 => l_bnd); walk_at "op line")
  k_with "binaryOp LShift int int" => (k_here; (fail_if_success (with_reducible show wpAny _ _ (binaryOp _ (Value.int (OfNat.ofNat _) _) (Value.int (OfNat.ofNat _) _)) _ _ _)); (with_reducible refine o_lsh ?zq9kb1 ?zq9kb2 ?zq9kb3 ?_); (case zq9kb1 => l_bnd); (case zq9kb2 => l_bnd); (case zq9kb3 => l_bnd); walk_at "op line")
  k_with "pure enter" => (refine' code_pure ?zq9k1 ?zq9k2 ?zq9k3 ?zq9k5 ?zq9kA ?zq9kF ?zq9kK ?zq9k6 ?zq9k7 ?zq9k8 ?zq9k9 ?zq9kB ?_ ?zq9c2 ?zq9c3 ?zq9c4 ?zq9c5; (case zq9kA => exact rfl); (case zq9kF => exact rfl); (case zq9kK => assumption); (case zq9k1 => k_asm); (case zq9k2 => k_asm); (case zq9k3 => k_asm); (case zq9k5 => k_asm); (case zq9k6 => k_is); (case zq9k7 => k_is); (case zq9k8 => ktr_room); (case zq9k9 => exact BindsTo.of_eq rfl); (case zq9c5 => decide); (case zq9kB => exact locs rfl); (case zq9c2 => exact rfl); (case zq9c3 => exact rfl); (case zq9c4 => exact rfl); k_whole; intro L' h' F' N' B' X' T'; (try dsimp only); (try k_lift B'); (try k_fold))
  k_with "passes own line" => (with_reducible exact PySem.PassesOwn.leaving)
  k_with "kst facts1 line" => (first | with_reducible assumption | ((repeat (with_reducible refine IntsAre.cons _ _ ?_)); with_reducible exact IntsAre.nil) | exact IntsAre.append (by with_reducible assumption) (by with_reducible assumption) | exact IntsAre.append (by kst_facts1) (IntsAre.cons _ _ IntsAre.nil) | exact IntsAre.append (by kst_facts1) (IntsAre.cons _ _ (IntsAre.cons _ _ (IntsAre.cons _ _ IntsAre.nil))))
  k_with "sz" => ((try law_lens); (try simp only [List.size_toArray, Array.size_append, Array.size_push, Array.length_toList, List.length_append, List.length_cons, List.length_nil, List.length_reverse, List.length_map, PySem.sizeLine_eq] at *); omega)
  k_with "call builtin:list.reverse" => (k_here; (with_reducible show wpAny _ _ (call (Value.builtin _) [Value.ref _]) _ _ _); k_dflt (refine' kl_reverse ?zq9F ?zq9N ?zq9e ?zq9U ?zq9z ?_; (case zq9F => k_asm); (case zq9N => k_asm); (case zq9e => exact rfl); (case zq9U => k_upd); (case zq9z => walk_at "sz")); intro h' F' N'; (try k_sweep))
  k_with "all and" => ((repeat' (with_reducible apply And.intro)) <;> first | trivial | assumption | omega)
  k_with "exec While Compare cons nil" => (k_dflt (k_extra "while"))
  k_with "exec While BoolOp cons nil" => (k_dflt (k_extra "while"))
  k_with "exec While" => (k_dflt (k_extra "while"))
  k_with "use side" => ((case k1 => k_asm); (case k2 => k_asm); (case k3 => k_asm); (case k4 => k_asm); (case k5 => k_asm); (case kK => first | exact rfl | assumption); (case kd => ktr_room); (case ku => ktr_units))
  k_with "use new" => ((try simp only [AllNe, and_true] at l1); (try k_sweep); (try dsimp only); (try k_fold))
  k_with "is list" => first | exact trivial | assumption | exact News.isList (by k_asm) (by k_mem) | exact stays_list (Fr.keep (by k_asm)) (by assumption)
  k_with "call ref" => (k_dflt (k_extra "call"))
  k_with "exec Raise some none" => (k_dflt (exfalso; k_extra "raise"))
  k_with "for enter" => (ktd_said "for"; k_here; (rename Fr _ _ _ _ => lF'); (with_unfolding_all refine' For_invVF lF' ?zq9k1 ?zq9k2 ?_; (case zq9k1 => exact rfl); (case zq9k2 => exact rfl); k_whole))
  k_with "exec For Name Subscript cons nil" => (k_dflt (walk_at "for enter"))
  k_with "exec For Name Name cons nil" => (k_dflt (walk_at "for enter"))
  k_with "exec For Name Call cons nil" => (k_dflt (walk_at "for enter"))
  k_with "pyIter ref" => (k_dflt (k_extra "for"))
  k_with "exec Raise some none" => (k_dflt (k_extra "raise die"))
  k_with "turn enter" => (refine' code_turn ?zq9k1 ?zq9k2 ?zq9k3 ?zq9k5 ?zq9kD ?zq9kA ?zq9kF ?zq9kK ?zq9k6 ?zq9k7 ?zq9k8 ?zq9k9 ?zq9kB ?_ ?zq9c2 ?zq9c3 ?zq9c4 ?zq9c5; (case zq9kA => exact rfl); (case zq9kF => exact rfl); (case zq9kK => assumption); (case zq9k1 => k_asm); (case zq9k2 => k_asm); (case zq9k3 => k_asm); (case zq9k5 => k_asm); (case zq9kD => k_asm); (case zq9k6 => k_is); (case zq9k7 => k_is); (case zq9k8 => ktr_room); (case zq9k9 => exact BindsTo.of_eq rfl); (case zq9c5 => decide); (case zq9kB => exact locs rfl); (case zq9c2 => exact rfl); (case zq9c3 => exact rfl); (case zq9c4 => exact rfl); k_whole; intro L' h' F' N' B' X' T' D'; (try dsimp only); (try k_lift B'); (try k_fold))
  k_with "LeaveT" => (k_dflt (refine' leaveT_ ?zq9T9 ?zq9F9 ?_; (case zq9F9 => k_asm); (case zq9T9 => first | exact KtsTurn.refl | assumption)); intro tT; (try dsimp only))
  k_with "new pair" => (intro l' t' u' h' tk' F' N' l1; (try simp only [AllNe, and_true] at l1); (try k_sweep); (try dsimp only); (try k_fold))
  k_with "new ints" => (intro l' vs' n' h' tk' F' N' l1 hI'; (try simp only [AllNe, and_true] at l1); (try k_sweep); (try dsimp only); (try k_fold))
  k_with "grow turn" => (intro gVs gNs gK gPre gT gU gH gTk gI gIt gLt gCls l1 gIs gP gF gN; (try k_lt l1); have kM := kstMark; (try k_fold))
  k_with "grow done" => (intro gVs gNs gK gU gH gTk gI gP gF gN; have kM := kstMark; (try k_fold))
  k_with "eval Call" => (ktd_said "call"; k_here; k_dflt (refine Call_ ?_))
  k_with "new int" => (intro u' h' tk' F' N'; (try k_sweep); (try dsimp only); (try k_fold))
  k_with "eval BinOp" => (k_dflt (k_extra "fact"))
  k_with "new bool" => (intro h' tk' F' N'; (try k_sweep); (try dsimp only); (try k_fold))
  k_with "call builtin:list.extend" => (k_here; (with_reducible show wpAny _ _ (call (Value.builtin _) [Value.ref _, Value.ref _]) _ _ _); k_dflt (refine' my_extend ?zq9F ?zq9N ?zq9b ?zq9U ?zq9ne ?zq9z ?_; (case zq9F => k_asm); (case zq9N => k_asm); (case zq9b => k_mem); (case zq9U => k_upd); (case zq9ne => walk_at "sz"); (case zq9z => walk_at "sz")); intro h' F' N'; (try k_sweep))
  k_with "op line" => (intro opX opE; (try simp only [bitAnd_m1, bitAnd_m4, bitAnd_m6, bitAnd_m7, bitAnd_m8, Int.reduceToNat, Int.reducePow] at opE); (try k_dflt (k_extra "op")))
  k_with "call builtin:min" => ((with_reducible show wpAny _ _ (call (Value.builtin _) [Value.int _ _, Value.int _ _]) _ _ _); ktd_said "min"; (with_reducible rename News _ _ _ _ => N'); (with_unfolding_all apply min_two_N); (case hh => with_unfolding_all rfl); (case N => exact N'); (case F => assumption); clear N'; intro _ _ _ _; k_dflt (k_extra "min"))
  k_with "kmk size line" => ((refine kmk_sz (by l_ints) ?_; rw [PySem.sizeLine_eq]; omega))
  k_with "InvEndN" => (k_dflt kst_close)
  k_with "ite" => (k_here; k_closed; k_dflt (first | refine ite_pos (by decide) ?_ | refine ite_neg (by decide) ?_))
  k_with "sz" => ((simp only [List.size_toArray, Array.size_append, Array.size_push, Array.length_toList, List.length_append, List.length_cons, List.length_nil, List.length_reverse, List.length_map, PySem.sizeLine_eq]); first | omega | (law_lens; omega))
  k_with "kmk nums line" => (first | ((with_reducible refine' kmk_run ?zq9ka ?zq9kb ?zq9kc); (case zq9ka => l_ints); (case zq9kb => kmk_sign); (case zq9kc => kmk_sign)) | ((with_reducible refine' kmk_from ?zq9ka ?zq9kb); (case zq9ka => l_ints); (case zq9kb => kmk_sign)) | ((with_reducible refine' kmk_upto ?zq9ka ?zq9kb); (case zq9ka => l_ints); (case zq9kb => kmk_sign)) | ((with_reducible refine' kmk_upto_neg ?zq9ka ?zq9kb); (case zq9ka => l_ints); (case zq9kb => kmk_sign)))
  k_with "k ne line" => ((refine neN ?_; (try dsimp only); with_reducible first | assumption | exact Ne.symm (by assumption) | exact Nat.ne_of_lt (by assumption) | exact Nat.ne_of_gt (by assumption)))
  k_with "x close line" => ((rename DieRet _ _ => hr9); (rename Mem _ _ _ _ => hD9); refine' die_use hr9 hD9 ⟨_, _, ?zq9hm⟩; (case zq9hm => (repeat (first | exact List.Mem.head _ | refine List.Mem.tail _ ?_))))
  k_with "execs cons" => ((with_reducible refine Mine.execs_seq ?_); intro qk)
  k_dflt walk_at "pure enter"
  (k_with "while" => (k_while (fun _ size => 2 ≤ size ∧ size ≤ 7) (fun _ size => (7 - size).toNat) "size"))
  (k_with "state" => walk_at "all and")
  (k_with "raise" => fail)
  (k_with "raise die" => (refine Raise_die (w := w) rfl ?_))
  (k_with "measure" => (omega))
  (k_with "call" => ((refine die_new (by k_in) ?kd ?ku ⟨fun e9 h9 tk9 hD9 => ?_⟩); (case kd => ktr_room); (case ku => ktr_units); refine raisable_of (by k_in) hD9 ?_; k_unfold; dsimp only; refine leave_die (by assumption) hD9 (by assumption) (fun h8 R8 U8 => ?_); dsimp only; exact hE _ _ _ R8 U8))
  (repeat' (first | ((with_reducible first | refine Mine.seq_nil ?_ | refine Mine.seq_next ?_ | refine Mine.seq_ret ?_); (try dsimp only)) | (k_unfold; (try dsimp only)) | (k_end; kc_close) | walk1 | (dsimp only; walk1) | (leave1; walk_say "STEP leave1"; try dsimp only) | fail "no step"))
end Mine
-- R6
open PySem PySem.W PyProof.Rows PySem.Calls PySem.Spec
namespace Mine
set_option maxHeartbeats 8000000 in
theorem dies_yes (w : World) (l : Addr) (vs : List Value) (ns : List Int) (a₀ : Int) (t : Tok) (hI : IntsAre vs ns) (hlen : ns.length ≤ 1000000) (ha : 0 ≤ a₀) (ha2 : a₀ < ns.length) (hf : 128 ≤ ns.getD a₀.toNat 0) (hf2 : ns.getD a₀.toNat 0 < 192) :
    PTurn w 50 201 [.ref l, .int a₀ t] (fun h => h.IsList l vs.toArray) (fun h₀ h r => r = .bool true) := by
  unfold PTurn prg
  k_fill
  intro mean mg mb dp un gd cn cs aC ccd cl outer A₀ base h₀ L m s Q E hB hF hX hT hD hXB hTB hK hDp hUn hpre hret
  refine wpAny_call ?_
  k_with_none
  k_with "op line" => (intro opX opE; (try simp only [bitAnd_m1, bitAnd_m4, bitAnd_m6, bitAnd_m7, bitAnd_m8, Int.reduceToNat, Int.reducePow] at opE))
  k_with "binaryOp BitAnd int int" => (k_here; (fail_if_success (with_reducible show wpAny _ _ (binaryOp _ (Value.int (OfNat.ofNat _) _) (Value.int (OfNat.ofNat _) _)) _ _ _)); (with_reducible refine o_and ?_); walk_at "op line")
  k_with "inplaceOp BitAnd int int" => (k_here; (fail_if_success (with_reducible show wpAny _ _ (inplaceOp _ (Value.int (OfNat.ofNat _) _) (Value.int (OfNat.ofNat _) _)) _ _ _)); (with_reducible refine o_iand ?_); walk_at "op line")
  k_with "binaryOp BitOr int int" => (k_here; (fail_if_success (with_reducible show wpAny _ _ (binaryOp _ (Value.int (OfNat.ofNat _) _) (Value.int (OfNat.ofNat _) _)) _ _ _)); (with_reducible refine o_or ?_); walk_at "op line")
  k_with "inplaceOp BitOr int int" => (k_here; (fail_if_success (with_reducible show wpAny _ _ (inplaceOp _ (Value.int (OfNat.ofNat _) _) (Value.int (OfNat.ofNat _) _)) _ _ _)); (with_reducible refine o_ior ?_); walk_at "op line")
  k_with "binaryOp RShift int int" => (k_here; (fail_if_success (with_reducible show wpAny _ _ (binaryOp _ (Value.int (OfNat.ofNat _) _) (Value.int (OfNat.ofNat _) _)) _ _ _)); (with_reducible refine o_rsh ?zq9kb1 ?_); (case zq9kb1 => l_bnd); walk_at "op line")
  k_with "inplaceOp RShift int int" => (k_here; (fail_if_success (with_reducible show wpAny _ _ (inplaceOp _ (Value.int (OfNat.ofNat _) _) (Value.int (OfNat.ofNat _) _)) _ _ _)); (with_reducible refine o_irsh ?zq9kb1 ?_); (case zq9kb1 => l_bnd); walk_at "op line")
  k_with "binaryOp LShift int int" => (k_here; (fail_if_success (with_reducible show wpAny _ _ (binaryOp _ (Value.int (OfNat.ofNat _) _) (Value.int (OfNat.ofNat _) _)) _ _ _)); (with_reducible refine o_lsh ?zq9kb1 ?zq9kb2 ?zq9kb3 ?_); (case zq9kb1 => l_bnd); (case zq9kb2 => l_bnd); (case zq9kb3 => l_bnd); walk_at "op line")
  k_with "pure enter" => (refine' code_pure ?zq9k1 ?zq9k2 ?zq9k3 ?zq9k5 ?zq9kA ?zq9kF ?zq9kK ?zq9k6 ?zq9k7 ?zq9k8 ?zq9k9 ?zq9kB ?_ ?zq9c2 ?zq9c3 ?zq9c4 ?zq9c5; (case zq9kA => exact rfl); (case zq9kF => exact rfl); (case zq9kK => assumption); (case zq9k1 => k_asm); (case zq9k2 => k_asm); (case zq9k3 => k_asm); (case zq9k5 => k_asm); (case zq9k6 => k_is); (case zq9k7 => k_is); (case zq9k8 => ktr_room); (case zq9k9 => exact BindsTo.of_eq rfl); (case zq9c5 => decide); (case zq9kB => exact locs rfl); (case zq9c2 => exact rfl); (case zq9c3 => exact rfl); (case zq9c4 => exact rfl); k_whole; intro L' h' F' N' B' X' T'; (try dsimp only); (try k_lift B'); (try k_fold))
  k_with "passes own line" => (with_reducible exact PySem.PassesOwn.leaving)
  k_with "kst facts1 line" => (first | with_reducible assumption | ((repeat (with_reducible refine IntsAre.cons _ _ ?_)); with_reducible exact IntsAre.nil) | exact IntsAre.append (by with_reducible assumption) (by with_reducible assumption) | exact IntsAre.append (by kst_facts1) (IntsAre.cons _ _ IntsAre.nil) | exact IntsAre.append (by kst_facts1) (IntsAre.cons _ _ (IntsAre.cons _ _ (IntsAre.cons _ _ IntsAre.nil))))
  k_with "sz" => ((try law_lens); (try simp only [List.size_toArray, Array.size_append, Array.size_push, Array.length_toList, List.length_append, List.length_cons, List.length_nil, List.length_reverse, List.length_map, PySem.sizeLine_eq] at *); omega)
  k_with "call builtin:list.reverse" => (k_here; (with_reducible show wpAny _ _ (call (Value.builtin _) [Value.ref _]) _ _ _); k_dflt (refine' kl_reverse ?zq9F ?zq9N ?zq9e ?zq9U ?zq9z ?_; (case zq9F => k_asm); (case zq9N => k_asm); (case zq9e => exact rfl); (case zq9U => k_upd); (case zq9z => walk_at "sz")); intro h' F' N'; (try k_sweep))
  k_with "all and" => ((repeat' (with_reducible apply And.intro)) <;> first | trivial | assumption | omega)
  k_with "exec While Compare cons nil" => (k_dflt (k_extra "while"))
  k_with "exec While BoolOp cons nil" => (k_dflt (k_extra "while"))
  k_with "exec While" => (k_dflt (k_extra "while"))
  k_with "use side" => ((case k1 => k_asm); (case k2 => k_asm); (case k3 => k_asm); (case k4 => k_asm); (case k5 => k_asm); (case kK => first | exact rfl | assumption); (case kd => ktr_room); (case ku => ktr_units))
  k_with "use new" => ((try simp only [AllNe, and_true] at l1); (try k_sweep); (try dsimp only); (try k_fold))
  k_with "is list" => first | exact trivial | assumption | exact News.isList (by k_asm) (by k_mem) | exact stays_list (Fr.keep (by k_asm)) (by assumption)
  k_with "call ref" => (k_dflt (k_extra "call"))
  k_with "exec Raise some none" => (k_dflt (exfalso; k_extra "raise"))
  k_with "for enter" => (ktd_said "for"; k_here; (rename Fr _ _ _ _ => lF'); (with_unfolding_all refine' For_invVF lF' ?zq9k1 ?zq9k2 ?_; (case zq9k1 => exact rfl); (case zq9k2 => exact rfl); k_whole))
  k_with "exec For Name Subscript cons nil" => (k_dflt (walk_at "for enter"))
  k_with "exec For Name Name cons nil" => (k_dflt (walk_at "for enter"))
  k_with "exec For Name Call cons nil" => (k_dflt (walk_at "for enter"))
  k_with "pyIter ref" => (k_dflt (k_extra "for"))
  k_with "exec Raise some none" => (k_dflt (k_extra "raise die"))
  k_with "turn enter" => (refine' code_turn ?zq9k1 ?zq9k2 ?zq9k3 ?zq9k5 ?zq9kD ?zq9kA ?zq9kF ?zq9kK ?zq9k6 ?zq9k7 ?zq9k8 ?zq9k9 ?zq9kB ?_ ?zq9c2 ?zq9c3 ?zq9c4 ?zq9c5; (case zq9kA => exact rfl); (case zq9kF => exact rfl); (case zq9kK => assumption); (case zq9k1 => k_asm); (case zq9k2 => k_asm); (case zq9k3 => k_asm); (case zq9k5 => k_asm); (case zq9kD => k_asm); (case zq9k6 => k_is); (case zq9k7 => k_is); (case zq9k8 => ktr_room); (case zq9k9 => exact BindsTo.of_eq rfl); (case zq9c5 => decide); (case zq9kB => exact locs rfl); (case zq9c2 => exact rfl); (case zq9c3 => exact rfl); (case zq9c4 => exact rfl); k_whole; intro L' h' F' N' B' X' T' D'; (try dsimp only); (try k_lift B'); (try k_fold))
  k_with "LeaveT" => (k_dflt (refine' leaveT_ ?zq9T9 ?zq9F9 ?_; (case zq9F9 => k_asm); (case zq9T9 => first | exact KtsTurn.refl | assumption)); intro tT; (try dsimp only))
  k_with "new pair" => (intro l' t' u' h' tk' F' N' l1; (try simp only [AllNe, and_true] at l1); (try k_sweep); (try dsimp only); (try k_fold))
  k_with "new ints" => (intro l' vs' n' h' tk' F' N' l1 hI'; (try simp only [AllNe, and_true] at l1); (try k_sweep); (try dsimp only); (try k_fold))
  k_with "grow turn" => (intro gVs gNs gK gPre gT gU gH gTk gI gIt gLt gCls l1 gIs gP gF gN; (try k_lt l1); have kM := kstMark; (try k_fold))
  k_with "grow done" => (intro gVs gNs gK gU gH gTk gI gP gF gN; have kM := kstMark; (try k_fold))
  k_with "eval Call" => (ktd_said "call"; k_here; k_dflt (refine Call_ ?_))
  k_with "new int" => (intro u' h' tk' F' N'; (try k_sweep); (try dsimp only); (try k_fold))
  k_with "eval BinOp" => (k_dflt (k_extra "fact"))
  k_with "new bool" => (intro h' tk' F' N'; (try k_sweep); (try dsimp only); (try k_fold))
  k_with "call builtin:list.extend" => (k_here; (with_reducible show wpAny _ _ (call (Value.builtin _) [Value.ref _, Value.ref _]) _ _ _); k_dflt (refine' my_extend ?zq9F ?zq9N ?zq9b ?zq9U ?zq9ne ?zq9z ?_; (case zq9F => k_asm); (case zq9N => k_asm); (case zq9b => k_mem); (case zq9U => k_upd); (case zq9ne => walk_at "sz"); (case zq9z => walk_at "sz")); intro h' F' N'; (try k_sweep))
  k_with "op line" => (intro opX opE; (try simp only [bitAnd_m1, bitAnd_m4, bitAnd_m6, bitAnd_m7, bitAnd_m8, Int.reduceToNat, Int.reducePow] at opE); (try k_dflt (k_extra "op")))
  k_with "call builtin:min" => ((with_reducible show wpAny _ _ (call (Value.builtin _) [Value.int _ _, Value.int _ _]) _ _ _); ktd_said "min"; (with_reducible rename News _ _ _ _ => N'); (with_unfolding_all apply min_two_N); (case hh => with_unfolding_all rfl); (case N => exact N'); (case F => assumption); clear N'; intro _ _ _ _; k_dflt (k_extra "min"))
  k_with "kmk size line" => ((refine kmk_sz (by l_ints) ?_; rw [PySem.sizeLine_eq]; omega))
  k_with "InvEndN" => (k_dflt kst_close)
  k_with "ite" => (k_here; k_closed; k_dflt (first | refine ite_pos (by decide) ?_ | refine ite_neg (by decide) ?_))
  k_with "sz" => ((simp only [List.size_toArray, Array.size_append, Array.size_push, Array.length_toList, List.length_append, List.length_cons, List.length_nil, List.length_reverse, List.length_map, PySem.sizeLine_eq]); first | omega | (law_lens; omega))
  k_with "kmk nums line" => (first | ((with_reducible refine' kmk_run ?zq9ka ?zq9kb ?zq9kc); (case zq9ka => l_ints); (case zq9kb => kmk_sign); (case zq9kc => kmk_sign)) | ((with_reducible refine' kmk_from ?zq9ka ?zq9kb); (case zq9ka => l_ints); (case zq9kb => kmk_sign)) | ((with_reducible refine' kmk_upto ?zq9ka ?zq9kb); (case zq9ka => l_ints); (case zq9kb => kmk_sign)) | ((with_reducible refine' kmk_upto_neg ?zq9ka ?zq9kb); (case zq9ka => l_ints); (case zq9kb => kmk_sign)))
  k_with "k ne line" => ((refine neN ?_; (try dsimp only); with_reducible first | assumption | exact Ne.symm (by assumption) | exact Nat.ne_of_lt (by assumption) | exact Nat.ne_of_gt (by assumption)))
  k_with "x close line" => ((rename DieRet _ _ => hr9); (rename Mem _ _ _ _ => hD9); refine' die_use hr9 hD9 ⟨_, _, ?zq9hm⟩; (case zq9hm => (repeat (first | exact List.Mem.head _ | refine List.Mem.tail _ ?_))))
  k_with "execs cons" => ((with_reducible refine Mine.execs_seq ?_); intro qk)
  k_dflt walk_at "turn enter"
  (k_with "call" => ((refine' rutf_dies w _ _ _ _ _ hI hlen ha ha2 hf hf2 ?k1 ?k2 ?k3 ?k5 ?kK ?kd ?ku ?kp ?kE); (case k1 => k_asm); (case k2 => k_asm); (case k3 => k_asm); (case k5 => k_asm); (case kK => first | exact rfl | assumption); (case kd => ktr_room); (case ku => ktr_units); (case kp => walk_at "is list"); intro e9 h9 tk9 R9 U9; dsimp only))
  (repeat' (first | ((with_reducible first | refine Mine.seq_nil ?_ | refine Mine.seq_next ?_ | refine Mine.seq_ret ?_); (try dsimp only)) | (k_unfold; (try dsimp only)) | (k_end; kc_close) | walk1 | (dsimp only; walk1) | (leave1; walk_say "STEP leave1"; try dsimp only) | fail "no step"))
  exact hret _ _ _ (by assumption) rfl

set_option maxHeartbeats 8000000 in
theorem rutf_c1 (w : World) (l : Addr) (vs : List Value) (ns post : List Int) (a₀ n : Int) (t : Tok) (hI : IntsAre vs ns) (hlen : ns.length ≤ 1000000) (ha : 0 ≤ a₀) (h0 : 0 ≤ n) (h1 : n < 128) (hd : ns.drop a₀.toNat = n :: post) :
    PCall w 10 81 [.ref l, .int a₀ t] (fun h => h.IsList l vs.toArray) (fun h₀ h r => NewPair h₀ h r n (a₀ + 1)) := by
  unfold PCall prg
  k_fill
  intro mean mg mb dp un gd cn cs aC ccd cl outer A₀ base h₀ L m s Q E hB hF hX hT hK hDp hUn hpre hret
  have hg : ns.getD a₀.toNat 0 = n := getD_drop (pre := []) hd (by simp)
  have hL : a₀ < ns.length := by have := len_drop hd (by simp); simp only [List.length_cons] at this; omega
  refine wpAny_call ?_
  k_with_none
  k_with "op line" => (intro opX opE; (try simp only [bitAnd_m1, bitAnd_m4, bitAnd_m6, bitAnd_m7, bitAnd_m8, Int.reduceToNat, Int.reducePow] at opE))
  k_with "binaryOp BitAnd int int" => (k_here; (fail_if_success (with_reducible show wpAny _ _ (binaryOp _ (Value.int (OfNat.ofNat _) _) (Value.int (OfNat.ofNat _) _)) _ _ _)); (with_reducible refine o_and ?_); walk_at "op line")
  k_with "inplaceOp BitAnd int int" => (k_here; (fail_if_success (with_reducible show wpAny _ _ (inplaceOp _ (Value.int (OfNat.ofNat _) _) (Value.int (OfNat.ofNat _) _)) _ _ _)); (with_reducible refine o_iand ?_); walk_at "op line")
  k_with "binaryOp BitOr int int" => (k_here; (fail_if_success (with_reducible show wpAny _ _ (binaryOp _ (Value.int (OfNat.ofNat _) _) (Value.int (OfNat.ofNat _) _)) _ _ _)); (with_reducible refine o_or ?_); walk_at "op line")
  k_with "inplaceOp BitOr int int" => (k_here; (fail_if_success (with_reducible show wpAny _ _ (inplaceOp _ (Value.int (OfNat.ofNat _) _) (Value.int (OfNat.ofNat _) _)) _ _ _)); (with_reducible refine o_ior ?_); walk_at "op line")
  k_with "binaryOp RShift int int" => (k_here; (fail_if_success (with_reducible show wpAny _ _ (binaryOp _ (Value.int (OfNat.ofNat _) _) (Value.int (OfNat.ofNat _) _)) _ _ _)); (with_reducible refine o_rsh ?zq9kb1 ?_); (case zq9kb1 => l_bnd); walk_at "op line")
  k_with "inplaceOp RShift int int" => (k_here; (fail_if_success (with_reducible show wpAny _ _ (inplaceOp _ (Value.int (OfNat.ofNat _) _) (Value.int (OfNat.ofNat _) _)) _ _ _)); (with_reducible refine o_irsh ?zq9kb1 ?_); (case zq9kb1 => l_bnd); walk_at "op line")
  k_with "binaryOp LShift int int" => (k_here; (fail_if_success (with_reducible show wpAny _ _ (binaryOp _ (Value.int (OfNat.ofNat _) _) (Value.int (OfNat.ofNat _) _)) _ _ _)); (with_reducible refine o_lsh ?zq9kb1 ?zq9kb2 ?zq9kb3 ?_); (case zq9kb1 => l_bnd); (case zq9kb2 => l_bnd); (case zq9kb3 => l_bnd); walk_at "op line")
  k_with "pure enter" => (refine' code_pure ?zq9k1 ?zq9k2 ?zq9k3 ?zq9k5 ?zq9kA ?zq9kF ?zq9kK ?zq9k6 ?zq9k7 ?zq9k8 ?zq9k9 ?zq9kB ?_ ?zq9c2 ?zq9c3 ?zq9c4 ?zq9c5; (case zq9kA => exact rfl); (case zq9kF => exact rfl); (case zq9kK => assumption); (case zq9k1 => k_asm); (case zq9k2 => k_asm); (case zq9k3 => k_asm); (case zq9k5 => k_asm); (case zq9k6 => k_is); (case zq9k7 => k_is); (case zq9k8 => ktr_room); (case zq9k9 => exact BindsTo.of_eq rfl); (case zq9c5 => decide); (case zq9kB => exact locs rfl); (case zq9c2 => exact rfl); (case zq9c3 => exact rfl); (case zq9c4 => exact rfl); k_whole; intro L' h' F' N' B' X' T'; (try dsimp only); (try k_lift B'); (try k_fold))
  k_with "passes own line" => (with_reducible exact PySem.PassesOwn.leaving)
  k_with "kst facts1 line" => (first | with_reducible assumption | ((repeat (with_reducible refine IntsAre.cons _ _ ?_)); with_reducible exact IntsAre.nil) | exact IntsAre.append (by with_reducible assumption) (by with_reducible assumption) | exact IntsAre.append (by kst_facts1) (IntsAre.cons _ _ IntsAre.nil) | exact IntsAre.append (by kst_facts1) (IntsAre.cons _ _ (IntsAre.cons _ _ (IntsAre.cons _ _ IntsAre.nil))))
  k_with "sz" => ((try law_lens); (try simp only [List.size_toArray, Array.size_append, Array.size_push, Array.length_toList, List.length_append, List.length_cons, List.length_nil, List.length_reverse, List.length_map, PySem.sizeLine_eq] at *); omega)
  k_with "call builtin:list.reverse" => (k_here; (with_reducible show wpAny _ _ (call (Value.builtin _) [Value.ref _]) _ _ _); k_dflt (refine' kl_reverse ?zq9F ?zq9N ?zq9e ?zq9U ?zq9z ?_; (case zq9F => k_asm); (case zq9N => k_asm); (case zq9e => exact rfl); (case zq9U => k_upd); (case zq9z => walk_at "sz")); intro h' F' N'; (try k_sweep))
  k_with "all and" => ((repeat' (with_reducible apply And.intro)) <;> first | trivial | assumption | omega)
  k_with "exec While Compare cons nil" => (k_dflt (k_extra "while"))
  k_with "exec While BoolOp cons nil" => (k_dflt (k_extra "while"))
  k_with "exec While" => (k_dflt (k_extra "while"))
  k_with "use side" => ((case k1 => k_asm); (case k2 => k_asm); (case k3 => k_asm); (case k4 => k_asm); (case k5 => k_asm); (case kK => first | exact rfl | assumption); (case kd => ktr_room); (case ku => ktr_units))
  k_with "use new" => ((try simp only [AllNe, and_true] at l1); (try k_sweep); (try dsimp only); (try k_fold))
  k_with "is list" => first | exact trivial | assumption | exact News.isList (by k_asm) (by k_mem) | exact stays_list (Fr.keep (by k_asm)) (by assumption)
  k_with "call ref" => (k_dflt (k_extra "call"))
  k_with "exec Raise some none" => (k_dflt (exfalso; k_extra "raise"))
  k_with "for enter" => (ktd_said "for"; k_here; (rename Fr _ _ _ _ => lF'); (with_unfolding_all refine' For_invVF lF' ?zq9k1 ?zq9k2 ?_; (case zq9k1 => exact rfl); (case zq9k2 => exact rfl); k_whole))
  k_with "exec For Name Subscript cons nil" => (k_dflt (walk_at "for enter"))
  k_with "exec For Name Name cons nil" => (k_dflt (walk_at "for enter"))
  k_with "exec For Name Call cons nil" => (k_dflt (walk_at "for enter"))
  k_with "pyIter ref" => (k_dflt (k_extra "for"))
  k_with "exec Raise some none" => (k_dflt (k_extra "raise die"))
  k_with "turn enter" => (refine' code_turn ?zq9k1 ?zq9k2 ?zq9k3 ?zq9k5 ?zq9kD ?zq9kA ?zq9kF ?zq9kK ?zq9k6 ?zq9k7 ?zq9k8 ?zq9k9 ?zq9kB ?_ ?zq9c2 ?zq9c3 ?zq9c4 ?zq9c5; (case zq9kA => exact rfl); (case zq9kF => exact rfl); (case zq9kK => assumption); (case zq9k1 => k_asm); (case zq9k2 => k_asm); (case zq9k3 => k_asm); (case zq9k5 => k_asm); (case zq9kD => k_asm); (case zq9k6 => k_is); (case zq9k7 => k_is); (case zq9k8 => ktr_room); (case zq9k9 => exact BindsTo.of_eq rfl); (case zq9c5 => decide); (case zq9kB => exact locs rfl); (case zq9c2 => exact rfl); (case zq9c3 => exact rfl); (case zq9c4 => exact rfl); k_whole; intro L' h' F' N' B' X' T' D'; (try dsimp only); (try k_lift B'); (try k_fold))
  k_with "LeaveT" => (k_dflt (refine' leaveT_ ?zq9T9 ?zq9F9 ?_; (case zq9F9 => k_asm); (case zq9T9 => first | exact KtsTurn.refl | assumption)); intro tT; (try dsimp only))
  k_with "new pair" => (intro l' t' u' h' tk' F' N' l1; (try simp only [AllNe, and_true] at l1); (try k_sweep); (try dsimp only); (try k_fold))
  k_with "new ints" => (intro l' vs' n' h' tk' F' N' l1 hI'; (try simp only [AllNe, and_true] at l1); (try k_sweep); (try dsimp only); (try k_fold))
  k_with "grow turn" => (intro gVs gNs gK gPre gT gU gH gTk gI gIt gLt gCls l1 gIs gP gF gN; (try k_lt l1); have kM := kstMark; (try k_fold))
  k_with "grow done" => (intro gVs gNs gK gU gH gTk gI gP gF gN; have kM := kstMark; (try k_fold))
  k_with "eval Call" => (ktd_said "call"; k_here; k_dflt (refine Call_ ?_))
  k_with "new int" => (intro u' h' tk' F' N'; (try k_sweep); (try dsimp only); (try k_fold))
  k_with "eval BinOp" => (k_dflt (k_extra "fact"))
  k_with "new bool" => (intro h' tk' F' N'; (try k_sweep); (try dsimp only); (try k_fold))
  k_with "call builtin:list.extend" => (k_here; (with_reducible show wpAny _ _ (call (Value.builtin _) [Value.ref _, Value.ref _]) _ _ _); k_dflt (refine' my_extend ?zq9F ?zq9N ?zq9b ?zq9U ?zq9ne ?zq9z ?_; (case zq9F => k_asm); (case zq9N => k_asm); (case zq9b => k_mem); (case zq9U => k_upd); (case zq9ne => walk_at "sz"); (case zq9z => walk_at "sz")); intro h' F' N'; (try k_sweep))
  k_with "op line" => (intro opX opE; (try simp only [bitAnd_m1, bitAnd_m4, bitAnd_m6, bitAnd_m7, bitAnd_m8, Int.reduceToNat, Int.reducePow] at opE); (try k_dflt (k_extra "op")))
  k_with "call builtin:min" => ((with_reducible show wpAny _ _ (call (Value.builtin _) [Value.int _ _, Value.int _ _]) _ _ _); ktd_said "min"; (with_reducible rename News _ _ _ _ => N'); (with_unfolding_all apply min_two_N); (case hh => with_unfolding_all rfl); (case N => exact N'); (case F => assumption); clear N'; intro _ _ _ _; k_dflt (k_extra "min"))
  k_with "kmk size line" => ((refine kmk_sz (by l_ints) ?_; rw [PySem.sizeLine_eq]; omega))
  k_with "InvEndN" => (k_dflt kst_close)
  k_with "ite" => (k_here; k_closed; k_dflt (first | refine ite_pos (by decide) ?_ | refine ite_neg (by decide) ?_))
  k_with "sz" => ((simp only [List.size_toArray, Array.size_append, Array.size_push, Array.length_toList, List.length_append, List.length_cons, List.length_nil, List.length_reverse, List.length_map, PySem.sizeLine_eq]); first | omega | (law_lens; omega))
  k_with "kmk nums line" => (first | ((with_reducible refine' kmk_run ?zq9ka ?zq9kb ?zq9kc); (case zq9ka => l_ints); (case zq9kb => kmk_sign); (case zq9kc => kmk_sign)) | ((with_reducible refine' kmk_from ?zq9ka ?zq9kb); (case zq9ka => l_ints); (case zq9kb => kmk_sign)) | ((with_reducible refine' kmk_upto ?zq9ka ?zq9kb); (case zq9ka => l_ints); (case zq9kb => kmk_sign)) | ((with_reducible refine' kmk_upto_neg ?zq9ka ?zq9kb); (case zq9ka => l_ints); (case zq9kb => kmk_sign)))
  k_with "k ne line" => ((refine neN ?_; (try dsimp only); with_reducible first | assumption | exact Ne.symm (by assumption) | exact Nat.ne_of_lt (by assumption) | exact Nat.ne_of_gt (by assumption)))
  k_with "x close line" => ((rename DieRet _ _ => hr9); (rename Mem _ _ _ _ => hD9); refine' die_use hr9 hD9 ⟨_, _, ?zq9hm⟩; (case zq9hm => (repeat (first | exact List.Mem.head _ | refine List.Mem.tail _ ?_))))
  k_with "execs cons" => ((with_reducible refine Mine.execs_seq ?_); intro qk)
  k_dflt walk_at "pure enter"
  (repeat' (first | ((with_reducible first | refine Mine.seq_nil ?_ | refine Mine.seq_next ?_ | refine Mine.seq_ret ?_); (try dsimp only)) | (k_unfold; (try dsimp only)) | (k_end; kc_close) | walk1 | (dsimp only; walk1) | (leave1; walk_say "STEP leave1"; try dsimp only) | fail "no step"))
  refine pcall_ret hret (by assumption) ?_
  (rename News s.heap _ _ _ => hN)
  have q := newPair_of hN (List.Mem.head _)
  rw [hg] at q
  exact q
/-- a code is read where it begins -/
theorem rutf_all (w : World) (l : Addr) (vs : List Value) (ns post : List Int) (a₀ n : Int) (t : Tok) (hI : IntsAre vs ns) (hlen : ns.length ≤ 1000000) (ha : 0 ≤ a₀) (h0 : 0 ≤ n) (h1 : n < 2 ^ 31) (hd : ns.drop a₀.toNat = utf n ++ post) :
    PCall w 10 81 [.ref l, .int a₀ t] (fun h => h.IsList l vs.toArray) (fun h₀ h r => NewPair h₀ h r n (a₀ + (utf n).length)) := by
  by_cases h : n < 128
  · have e : utf n = [n] := if_pos h
    rw [e] at hd ⊢
    exact rutf_c1 w l vs ns post a₀ n t hI hlen ha h0 h hd
  · exact rutf_c w l vs ns post a₀ n t hI hlen ⟨hd, ha, by omega, h1⟩
set_option maxHeartbeats 8000000 in
theorem dies_no (w : World) (l : Addr) (vs : List Value) (ns post : List Int) (a₀ n : Int) (t : Tok) (hI : IntsAre vs ns) (hlen : ns.length ≤ 1000000) (ha : 0 ≤ a₀) (h0 : 0 ≤ n) (h1 : n < 2 ^ 31) (hd : ns.drop a₀.toNat = utf n ++ post) :
    PTurn w 50 201 [.ref l, .int a₀ t] (fun h => h.IsList l vs.toArray) (fun h₀ h r => r = .bool false) := by
  unfold PTurn prg
  k_fill
  intro mean mg mb dp un gd cn cs aC ccd cl outer A₀ base h₀ L m s Q E hB hF hX hT hD hXB hTB hK hDp hUn hpre hret
  refine wpAny_call ?_
  k_with_none
  k_with "op line" => (intro opX opE; (try simp only [bitAnd_m1, bitAnd_m4, bitAnd_m6, bitAnd_m7, bitAnd_m8, Int.reduceToNat, Int.reducePow] at opE))
  k_with "binaryOp BitAnd int int" => (k_here; (fail_if_success (with_reducible show wpAny _ _ (binaryOp _ (Value.int (OfNat.ofNat _) _) (Value.int (OfNat.ofNat _) _)) _ _ _)); (with_reducible refine o_and ?_); walk_at "op line")
  k_with "inplaceOp BitAnd int int" => (k_here; (fail_if_success (with_reducible show wpAny _ _ (inplaceOp _ (Value.int (OfNat.ofNat _) _) (Value.int (OfNat.ofNat _) _)) _ _ _)); (with_reducible refine o_iand ?_); walk_at "op line")
  k_with "binaryOp BitOr int int" => (k_here; (fail_if_success (with_reducible show wpAny _ _ (binaryOp _ (Value.int (OfNat.ofNat _) _) (Value.int (OfNat.ofNat _) _)) _ _ _)); (with_reducible refine o_or ?_); walk_at "op line")
  k_with "inplaceOp BitOr int int" => (k_here; (fail_if_success (with_reducible show wpAny _ _ (inplaceOp _ (Value.int (OfNat.ofNat _) _) (Value.int (OfNat.ofNat _) _)) _ _ _)); (with_reducible refine o_ior ?_); walk_at "op line")
  k_with "binaryOp RShift int int" => (k_here; (fail_if_success (with_reducible show wpAny _ _ (binaryOp _ (Value.int (OfNat.ofNat _) _) (Value.int (OfNat.ofNat _) _)) _ _ _)); (with_reducible refine o_rsh ?zq9kb1 ?_); (case zq9kb1 => l_bnd); walk_at "op line")
  k_with "inplaceOp RShift int int" => (k_here; (fail_if_success (with_reducible show wpAny _ _ (inplaceOp _ (Value.int (OfNat.ofNat _) _) (Value.int (OfNat.ofNat _) _)) _ _ _)); (with_reducible refine o_irsh ?zq9kb1 ?_); (case zq9kb1 => l_bnd); walk_at "op line")
  k_with "binaryOp LShift int int" => (k_here; (fail_if_success (with_reducible show wpAny _ _ (binaryOp _ (Value.int (OfNat.ofNat _) _) (Value.int (OfNat.ofNat _) _)) _ _ _)); (with_reducible refine o_lsh ?zq9kb1 ?zq9kb2 ?zq9kb3 ?_); (case zq9kb1 => l_bnd); (case zq9kb2 => l_bnd); (case zq9kb3 => l_bnd); walk_at "op line")
  k_with "pure enter" => (refine' code_pure ?zq9k1 ?zq9k2 ?zq9k3 ?zq9k5 ?zq9kA ?zq9kF ?zq9kK ?zq9k6 ?zq9k7 ?zq9k8 ?zq9k9 ?zq9kB ?_ ?zq9c2 ?zq9c3 ?zq9c4 ?zq9c5; (case zq9kA => exact rfl); (case zq9kF => exact rfl); (case zq9kK => assumption); (case zq9k1 => k_asm); (case zq9k2 => k_asm); (case zq9k3 => k_asm); (case zq9k5 => k_asm); (case zq9k6 => k_is); (case zq9k7 => k_is); (case zq9k8 => ktr_room); (case zq9k9 => exact BindsTo.of_eq rfl); (case zq9c5 => decide); (case zq9kB => exact locs rfl); (case zq9c2 => exact rfl); (case zq9c3 => exact rfl); (case zq9c4 => exact rfl); k_whole; intro L' h' F' N' B' X' T'; (try dsimp only); (try k_lift B'); (try k_fold))
  k_with "passes own line" => (with_reducible exact PySem.PassesOwn.leaving)
  k_with "kst facts1 line" => (first | with_reducible assumption | ((repeat (with_reducible refine IntsAre.cons _ _ ?_)); with_reducible exact IntsAre.nil) | exact IntsAre.append (by with_reducible assumption) (by with_reducible assumption) | exact IntsAre.append (by kst_facts1) (IntsAre.cons _ _ IntsAre.nil) | exact IntsAre.append (by kst_facts1) (IntsAre.cons _ _ (IntsAre.cons _ _ (IntsAre.cons _ _ IntsAre.nil))))
  k_with "sz" => ((try law_lens); (try simp only [List.size_toArray, Array.size_append, Array.size_push, Array.length_toList, List.length_append, List.length_cons, List.length_nil, List.length_reverse, List.length_map, PySem.sizeLine_eq] at *); omega)
  k_with "call builtin:list.reverse" => (k_here; (with_reducible show wpAny _ _ (call (Value.builtin _) [Value.ref _]) _ _ _); k_dflt (refine' kl_reverse ?zq9F ?zq9N ?zq9e ?zq9U ?zq9z ?_; (case zq9F => k_asm); (case zq9N => k_asm); (case zq9e => exact rfl); (case zq9U => k_upd); (case zq9z => walk_at "sz")); intro h' F' N'; (try k_sweep))
  k_with "all and" => ((repeat' (with_reducible apply And.intro)) <;> first | trivial | assumption | omega)
  k_with "exec While Compare cons nil" => (k_dflt (k_extra "while"))
  k_with "exec While BoolOp cons nil" => (k_dflt (k_extra "while"))
  k_with "exec While" => (k_dflt (k_extra "while"))
  k_with "use side" => ((case k1 => k_asm); (case k2 => k_asm); (case k3 => k_asm); (case k4 => k_asm); (case k5 => k_asm); (case kK => first | exact rfl | assumption); (case kd => ktr_room); (case ku => ktr_units))
  k_with "use new" => ((try simp only [AllNe, and_true] at l1); (try k_sweep); (try dsimp only); (try k_fold))
  k_with "is list" => first | exact trivial | assumption | exact News.isList (by k_asm) (by k_mem) | exact stays_list (Fr.keep (by k_asm)) (by assumption)
  k_with "call ref" => (k_dflt (k_extra "call"))
  k_with "exec Raise some none" => (k_dflt (exfalso; k_extra "raise"))
  k_with "for enter" => (ktd_said "for"; k_here; (rename Fr _ _ _ _ => lF'); (with_unfolding_all refine' For_invVF lF' ?zq9k1 ?zq9k2 ?_; (case zq9k1 => exact rfl); (case zq9k2 => exact rfl); k_whole))
  k_with "exec For Name Subscript cons nil" => (k_dflt (walk_at "for enter"))
  k_with "exec For Name Name cons nil" => (k_dflt (walk_at "for enter"))
  k_with "exec For Name Call cons nil" => (k_dflt (walk_at "for enter"))
  k_with "pyIter ref" => (k_dflt (k_extra "for"))
  k_with "exec Raise some none" => (k_dflt (k_extra "raise die"))
  k_with "turn enter" => (refine' code_turn ?zq9k1 ?zq9k2 ?zq9k3 ?zq9k5 ?zq9kD ?zq9kA ?zq9kF ?zq9kK ?zq9k6 ?zq9k7 ?zq9k8 ?zq9k9 ?zq9kB ?_ ?zq9c2 ?zq9c3 ?zq9c4 ?zq9c5; (case zq9kA => exact rfl); (case zq9kF => exact rfl); (case zq9kK => assumption); (case zq9k1 => k_asm); (case zq9k2 => k_asm); (case zq9k3 => k_asm); (case zq9k5 => k_asm); (case zq9kD => k_asm); (case zq9k6 => k_is); (case zq9k7 => k_is); (case zq9k8 => ktr_room); (case zq9k9 => exact BindsTo.of_eq rfl); (case zq9c5 => decide); (case zq9kB => exact locs rfl); (case zq9c2 => exact rfl); (case zq9c3 => exact rfl); (case zq9c4 => exact rfl); k_whole; intro L' h' F' N' B' X' T' D'; (try dsimp only); (try k_lift B'); (try k_fold))
  k_with "LeaveT" => (k_dflt (refine' leaveT_ ?zq9T9 ?zq9F9 ?_; (case zq9F9 => k_asm); (case zq9T9 => first | exact KtsTurn.refl | assumption)); intro tT; (try dsimp only))
  k_with "new pair" => (intro l' t' u' h' tk' F' N' l1; (try simp only [AllNe, and_true] at l1); (try k_sweep); (try dsimp only); (try k_fold))
  k_with "new ints" => (intro l' vs' n' h' tk' F' N' l1 hI'; (try simp only [AllNe, and_true] at l1); (try k_sweep); (try dsimp only); (try k_fold))
  k_with "grow turn" => (intro gVs gNs gK gPre gT gU gH gTk gI gIt gLt gCls l1 gIs gP gF gN; (try k_lt l1); have kM := kstMark; (try k_fold))
  k_with "grow done" => (intro gVs gNs gK gU gH gTk gI gP gF gN; have kM := kstMark; (try k_fold))
  k_with "eval Call" => (ktd_said "call"; k_here; k_dflt (refine Call_ ?_))
  k_with "new int" => (intro u' h' tk' F' N'; (try k_sweep); (try dsimp only); (try k_fold))
  k_with "eval BinOp" => (k_dflt (k_extra "fact"))
  k_with "new bool" => (intro h' tk' F' N'; (try k_sweep); (try dsimp only); (try k_fold))
  k_with "call builtin:list.extend" => (k_here; (with_reducible show wpAny _ _ (call (Value.builtin _) [Value.ref _, Value.ref _]) _ _ _); k_dflt (refine' my_extend ?zq9F ?zq9N ?zq9b ?zq9U ?zq9ne ?zq9z ?_; (case zq9F => k_asm); (case zq9N => k_asm); (case zq9b => k_mem); (case zq9U => k_upd); (case zq9ne => walk_at "sz"); (case zq9z => walk_at "sz")); intro h' F' N'; (try k_sweep))
  k_with "op line" => (intro opX opE; (try simp only [bitAnd_m1, bitAnd_m4, bitAnd_m6, bitAnd_m7, bitAnd_m8, Int.reduceToNat, Int.reducePow] at opE); (try k_dflt (k_extra "op")))
  k_with "call builtin:min" => ((with_reducible show wpAny _ _ (call (Value.builtin _) [Value.int _ _, Value.int _ _]) _ _ _); ktd_said "min"; (with_reducible rename News _ _ _ _ => N'); (with_unfolding_all apply min_two_N); (case hh => with_unfolding_all rfl); (case N => exact N'); (case F => assumption); clear N'; intro _ _ _ _; k_dflt (k_extra "min"))
  k_with "kmk size line" => ((refine kmk_sz (by l_ints) ?_; rw [PySem.sizeLine_eq]; omega))
  k_with "InvEndN" => (k_dflt kst_close)
  k_with "ite" => (k_here; k_closed; k_dflt (first | refine ite_pos (by decide) ?_ | refine ite_neg (by decide) ?_))
  k_with "sz" => ((simp only [List.size_toArray, Array.size_append, Array.size_push, Array.length_toList, List.length_append, List.length_cons, List.length_nil, List.length_reverse, List.length_map, PySem.sizeLine_eq]); first | omega | (law_lens; omega))
  k_with "kmk nums line" => (first | ((with_reducible refine' kmk_run ?zq9ka ?zq9kb ?zq9kc); (case zq9ka => l_ints); (case zq9kb => kmk_sign); (case zq9kc => kmk_sign)) | ((with_reducible refine' kmk_from ?zq9ka ?zq9kb); (case zq9ka => l_ints); (case zq9kb => kmk_sign)) | ((with_reducible refine' kmk_upto ?zq9ka ?zq9kb); (case zq9ka => l_ints); (case zq9kb => kmk_sign)) | ((with_reducible refine' kmk_upto_neg ?zq9ka ?zq9kb); (case zq9ka => l_ints); (case zq9kb => kmk_sign)))
  k_with "k ne line" => ((refine neN ?_; (try dsimp only); with_reducible first | assumption | exact Ne.symm (by assumption) | exact Nat.ne_of_lt (by assumption) | exact Nat.ne_of_gt (by assumption)))
  k_with "x close line" => ((rename DieRet _ _ => hr9); (rename Mem _ _ _ _ => hD9); refine' die_use hr9 hD9 ⟨_, _, ?zq9hm⟩; (case zq9hm => (repeat (first | exact List.Mem.head _ | refine List.Mem.tail _ ?_))))
  k_with "execs cons" => ((with_reducible refine Mine.execs_seq ?_); intro qk)
  k_dflt walk_at "turn enter"
  (k_with "call" => ((refine' use_pair (rutf_all w _ _ _ _ _ _ _ hI hlen ha h0 h1 hd) ?k1 ?k2 ?k3 ?k4 ?k5 ?kK ?kd ?ku ?kp ?_); (case kp => walk_at "is list"); walk_at "use side"; walk_at "new pair"))
  (repeat' (first | ((with_reducible first | refine Mine.seq_nil ?_ | refine Mine.seq_next ?_ | refine Mine.seq_ret ?_); (try dsimp only)) | (k_unfold; (try dsimp only)) | (k_end; kc_close) | walk1 | (dsimp only; walk1) | (leave1; walk_say "STEP leave1"; try dsimp only) | fail "no step"))
  exact hret _ _ _ (by assumption) rfl
end Mine
-- S2
open PySem PySem.W PyProof.Rows PySem.Calls PySem.Spec
namespace Mine
set_option maxHeartbeats 8000000 in
theorem isUu_c (w : World) (l : Addr) (vs : List Value) (ns : List Int) (a₀ : Int) (t : Tok) (hI : IntsAre vs ns) (hlen : ns.length ≤ 1000000) (ha : 0 ≤ a₀) :
    PCall w 5 144 [.ref l, .int a₀ t] (fun h => h.IsList l vs.toArray) (fun _ _ r => r = .bool (isU ns a₀)) := by
  unfold PCall prg
  k_fill
  intro mean mg mb dp un gd cn cs aC ccd cl outer A₀ base h₀ L m s Q E hB hF hX hT hK hDp hUn hpre hret
  refine wpAny_call ?_
  k_with_none
  k_with "op line" => (intro opX opE; (try simp only [bitAnd_m1, bitAnd_m4, bitAnd_m6, bitAnd_m7, bitAnd_m8, Int.reduceToNat, Int.reducePow] at opE))
  k_with "binaryOp BitAnd int int" => (k_here; (fail_if_success (with_reducible show wpAny _ _ (binaryOp _ (Value.int (OfNat.ofNat _) _) (Value.int (OfNat.ofNat _) _)) _ _ _)); (with_reducible refine o_and ?_); walk_at "op line")
  k_with "inplaceOp BitAnd int int" => (k_here; (fail_if_success (with_reducible show wpAny _ _ (inplaceOp _ (Value.int (OfNat.ofNat _) _) (Value.int (OfNat.ofNat _) _)) _ _ _)); (with_reducible refine o_iand ?_); walk_at "op line")
  k_with "binaryOp BitOr int int" => (k_here; (fail_if_success (with_reducible show wpAny _ _ (binaryOp _ (Value.int (OfNat.ofNat _) _) (Value.int (OfNat.ofNat _) _)) _ _ _)); (with_reducible refine o_or ?_); walk_at "op line")
  k_with "inplaceOp BitOr int int" => (k_here; (fail_if_success (with_reducible show wpAny _ _ (inplaceOp _ (Value.int (OfNat.ofNat _) _) (Value.int (OfNat.ofNat _) _)) _ _ _)); (with_reducible refine o_ior ?_); walk_at "op line")
  k_with "binaryOp RShift int int" => (k_here; (fail_if_success (with_reducible show wpAny _ _ (binaryOp _ (Value.int (OfNat.ofNat _) _) (Value.int (OfNat.ofNat _) _)) _ _ _)); (with_reducible refine o_rsh ?zq9kb1 ?_); (case zq9kb1 => l_bnd); walk_at "op line")
  k_with "inplaceOp RShift int int" => (k_here; (fail_if_success (with_reducible show wpAny _ _ (inplaceOp _ (Value.int (OfNat.ofNat _) _) (Value.int (OfNat.ofNat _) _)) _ _ _)); (with_reducible refine o_irsh ?zq9kb1 ?_); (case zq9kb1 => l_bnd); walk_at "op line")
  k_with "binaryOp LShift int int" => (k_here; (fail_if_success (with_reducible show wpAny _ _ (binaryOp _ (Value.int (OfNat.ofNat _) _) (Value.int (OfNat.ofNat _) _)) _ _ _)); (with_reducible refine o_lsh ?zq9kb1 ?zq9kb2 ?zq9kb3 ?_); (case zq9kb1 => l_bnd); (case zq9kb2 => l_bnd); (case zq9kb3 => l_bnd); walk_at "op line")
  k_with "pure enter" => (refine' code_pure ?zq9k1 ?zq9k2 ?zq9k3 ?zq9k5 ?zq9kA ?zq9kF ?zq9kK ?zq9k6 ?zq9k7 ?zq9k8 ?zq9k9 ?zq9kB ?_ ?zq9c2 ?zq9c3 ?zq9c4 ?zq9c5; (case zq9kA => exact rfl); (case zq9kF => exact rfl); (case zq9kK => assumption); (case zq9k1 => k_asm); (case zq9k2 => k_asm); (case zq9k3 => k_asm); (case zq9k5 => k_asm); (case zq9k6 => k_is); (case zq9k7 => k_is); (case zq9k8 => ktr_room); (case zq9k9 => exact BindsTo.of_eq rfl); (case zq9c5 => decide); (case zq9kB => exact locs rfl); (case zq9c2 => exact rfl); (case zq9c3 => exact rfl); (case zq9c4 => exact rfl); k_whole; intro L' h' F' N' B' X' T'; (try dsimp only); (try k_lift B'); (try k_fold))
  k_with "passes own line" => (with_reducible exact PySem.PassesOwn.leaving)
  k_with "kst facts1 line" => (first | with_reducible assumption | ((repeat (with_reducible refine IntsAre.cons _ _ ?_)); with_reducible exact IntsAre.nil) | exact IntsAre.append (by with_reducible assumption) (by with_reducible assumption) | exact IntsAre.append (by kst_facts1) (IntsAre.cons _ _ IntsAre.nil) | exact IntsAre.append (by kst_facts1) (IntsAre.cons _ _ (IntsAre.cons _ _ (IntsAre.cons _ _ IntsAre.nil))))
  k_with "sz" => ((try law_lens); (try simp only [List.size_toArray, Array.size_append, Array.size_push, Array.length_toList, List.length_append, List.length_cons, List.length_nil, List.length_reverse, List.length_map, PySem.sizeLine_eq] at *); omega)
  k_with "call builtin:list.reverse" => (k_here; (with_reducible show wpAny _ _ (call (Value.builtin _) [Value.ref _]) _ _ _); k_dflt (refine' kl_reverse ?zq9F ?zq9N ?zq9e ?zq9U ?zq9z ?_; (case zq9F => k_asm); (case zq9N => k_asm); (case zq9e => exact rfl); (case zq9U => k_upd); (case zq9z => walk_at "sz")); intro h' F' N'; (try k_sweep))
  k_with "all and" => ((repeat' (with_reducible apply And.intro)) <;> first | trivial | assumption | omega)
  k_with "exec While Compare cons nil" => (k_dflt (k_extra "while"))
  k_with "exec While BoolOp cons nil" => (k_dflt (k_extra "while"))
  k_with "exec While" => (k_dflt (k_extra "while"))
  k_with "use side" => ((case k1 => k_asm); (case k2 => k_asm); (case k3 => k_asm); (case k4 => k_asm); (case k5 => k_asm); (case kK => first | exact rfl | assumption); (case kd => ktr_room); (case ku => ktr_units))
  k_with "use new" => ((try simp only [AllNe, and_true] at l1); (try k_sweep); (try dsimp only); (try k_fold))
  k_with "is list" => first | exact trivial | assumption | exact News.isList (by k_asm) (by k_mem) | exact stays_list (Fr.keep (by k_asm)) (by assumption)
  k_with "call ref" => (k_dflt (k_extra "call"))
  k_with "exec Raise some none" => (k_dflt (exfalso; k_extra "raise"))
  k_with "for enter" => (ktd_said "for"; k_here; (rename Fr _ _ _ _ => lF'); (with_unfolding_all refine' For_invVF lF' ?zq9k1 ?zq9k2 ?_; (case zq9k1 => exact rfl); (case zq9k2 => exact rfl); k_whole))
  k_with "exec For Name Subscript cons nil" => (k_dflt (walk_at "for enter"))
  k_with "exec For Name Name cons nil" => (k_dflt (walk_at "for enter"))
  k_with "exec For Name Call cons nil" => (k_dflt (walk_at "for enter"))
  k_with "pyIter ref" => (k_dflt (k_extra "for"))
  k_with "exec Raise some none" => (k_dflt (k_extra "raise die"))
  k_with "turn enter" => (refine' code_turn ?zq9k1 ?zq9k2 ?zq9k3 ?zq9k5 ?zq9kD ?zq9kA ?zq9kF ?zq9kK ?zq9k6 ?zq9k7 ?zq9k8 ?zq9k9 ?zq9kB ?_ ?zq9c2 ?zq9c3 ?zq9c4 ?zq9c5; (case zq9kA => exact rfl); (case zq9kF => exact rfl); (case zq9kK => assumption); (case zq9k1 => k_asm); (case zq9k2 => k_asm); (case zq9k3 => k_asm); (case zq9k5 => k_asm); (case zq9kD => k_asm); (case zq9k6 => k_is); (case zq9k7 => k_is); (case zq9k8 => ktr_room); (case zq9k9 => exact BindsTo.of_eq rfl); (case zq9c5 => decide); (case zq9kB => exact locs rfl); (case zq9c2 => exact rfl); (case zq9c3 => exact rfl); (case zq9c4 => exact rfl); k_whole; intro L' h' F' N' B' X' T' D'; (try dsimp only); (try k_lift B'); (try k_fold))
  k_with "LeaveT" => (k_dflt (refine' leaveT_ ?zq9T9 ?zq9F9 ?_; (case zq9F9 => k_asm); (case zq9T9 => first | exact KtsTurn.refl | assumption)); intro tT; (try dsimp only))
  k_with "new pair" => (intro l' t' u' h' tk' F' N' l1; (try simp only [AllNe, and_true] at l1); (try k_sweep); (try dsimp only); (try k_fold))
  k_with "new ints" => (intro l' vs' n' h' tk' F' N' l1 hI'; (try simp only [AllNe, and_true] at l1); (try k_sweep); (try dsimp only); (try k_fold))
  k_with "grow turn" => (intro gVs gNs gK gPre gT gU gH gTk gI gIt gLt gCls l1 gIs gP gF gN; (try k_lt l1); have kM := kstMark; (try k_fold))
  k_with "grow done" => (intro gVs gNs gK gU gH gTk gI gP gF gN; have kM := kstMark; (try k_fold))
  k_with "eval Call" => (ktd_said "call"; k_here; k_dflt (refine Call_ ?_))
  k_with "new int" => (intro u' h' tk' F' N'; (try k_sweep); (try dsimp only); (try k_fold))
  k_with "eval BinOp" => (k_dflt (k_extra "fact"))
  k_with "new bool" => (intro h' tk' F' N'; (try k_sweep); (try dsimp only); (try k_fold))
  k_with "call builtin:list.extend" => (k_here; (with_reducible show wpAny _ _ (call (Value.builtin _) [Value.ref _, Value.ref _]) _ _ _); k_dflt (refine' my_extend ?zq9F ?zq9N ?zq9b ?zq9U ?zq9ne ?zq9z ?_; (case zq9F => k_asm); (case zq9N => k_asm); (case zq9b => k_mem); (case zq9U => k_upd); (case zq9ne => walk_at "sz"); (case zq9z => walk_at "sz")); intro h' F' N'; (try k_sweep))
  k_with "op line" => (intro opX opE; (try simp only [bitAnd_m1, bitAnd_m4, bitAnd_m6, bitAnd_m7, bitAnd_m8, Int.reduceToNat, Int.reducePow] at opE); (try k_dflt (k_extra "op")))
  k_with "call builtin:min" => ((with_reducible show wpAny _ _ (call (Value.builtin _) [Value.int _ _, Value.int _ _]) _ _ _); ktd_said "min"; (with_reducible rename News _ _ _ _ => N'); (with_unfolding_all apply min_two_N); (case hh => with_unfolding_all rfl); (case N => exact N'); (case F => assumption); clear N'; intro _ _ _ _; k_dflt (k_extra "min"))
  k_with "kmk size line" => ((refine kmk_sz (by l_ints) ?_; rw [PySem.sizeLine_eq]; omega))
  k_with "InvEndN" => (k_dflt kst_close)
  k_with "ite" => (k_here; k_closed; k_dflt (first | refine ite_pos (by decide) ?_ | refine ite_neg (by decide) ?_))
  k_with "sz" => ((simp only [List.size_toArray, Array.size_append, Array.size_push, Array.length_toList, List.length_append, List.length_cons, List.length_nil, List.length_reverse, List.length_map, PySem.sizeLine_eq]); first | omega | (law_lens; omega))
  k_with "kmk nums line" => (first | ((with_reducible refine' kmk_run ?zq9ka ?zq9kb ?zq9kc); (case zq9ka => l_ints); (case zq9kb => kmk_sign); (case zq9kc => kmk_sign)) | ((with_reducible refine' kmk_from ?zq9ka ?zq9kb); (case zq9ka => l_ints); (case zq9kb => kmk_sign)) | ((with_reducible refine' kmk_upto ?zq9ka ?zq9kb); (case zq9ka => l_ints); (case zq9kb => kmk_sign)) | ((with_reducible refine' kmk_upto_neg ?zq9ka ?zq9kb); (case zq9ka => l_ints); (case zq9kb => kmk_sign)))
  k_with "k ne line" => ((refine neN ?_; (try dsimp only); with_reducible first | assumption | exact Ne.symm (by assumption) | exact Nat.ne_of_lt (by assumption) | exact Nat.ne_of_gt (by assumption)))
  k_with "execs cons" => ((with_reducible refine Mine.execs_seq ?_); intro qk)
  k_dflt walk_at "pure enter"
  (repeat' (first | ((with_reducible first | refine Mine.seq_nil ?_ | refine Mine.seq_next ?_ | refine Mine.seq_ret ?_); (try dsimp only)) | (k_unfold; (try dsimp only)) | (k_end; kc_close) | walk1 | (dsimp only; walk1) | (leave1; walk_say "STEP leave1"; try dsimp only) | fail "no step"))
  all_goals refine pcall_ret hret (by assumption) ?_
  all_goals (show Value.bool _ = Value.bool (isU ns a₀); simp only [Value.bool.injEq, isU, decide_eq_decide]; omega)
set_option maxHeartbeats 8000000 in
theorem uuSix_c (w : World) (l : Addr) (vs : List Value) (ns : List Int) (a₀ : Int) (t : Tok) (hI : IntsAre vs ns) (hlen : ns.length ≤ 1000000) (ha : 0 ≤ a₀) :
    PCall w 10 151 [.ref l, .int a₀ t] (fun h => h.IsList l vs.toArray) (fun _ _ r => ∃ u, r = .int (sixU ns a₀) u) := by
  unfold PCall prg
  k_fill
  intro mean mg mb dp un gd cn cs aC ccd cl outer A₀ base h₀ L m s Q E hB hF hX hT hK hDp hUn hpre hret
  refine wpAny_call ?_
  k_with_none
  k_with "op line" => (intro opX opE; (try simp only [bitAnd_m1, bitAnd_m4, bitAnd_m6, bitAnd_m7, bitAnd_m8, Int.reduceToNat, Int.reducePow] at opE))
  k_with "binaryOp BitAnd int int" => (k_here; (fail_if_success (with_reducible show wpAny _ _ (binaryOp _ (Value.int (OfNat.ofNat _) _) (Value.int (OfNat.ofNat _) _)) _ _ _)); (with_reducible refine o_and ?_); walk_at "op line")
  k_with "inplaceOp BitAnd int int" => (k_here; (fail_if_success (with_reducible show wpAny _ _ (inplaceOp _ (Value.int (OfNat.ofNat _) _) (Value.int (OfNat.ofNat _) _)) _ _ _)); (with_reducible refine o_iand ?_); walk_at "op line")
  k_with "binaryOp BitOr int int" => (k_here; (fail_if_success (with_reducible show wpAny _ _ (binaryOp _ (Value.int (OfNat.ofNat _) _) (Value.int (OfNat.ofNat _) _)) _ _ _)); (with_reducible refine o_or ?_); walk_at "op line")
  k_with "inplaceOp BitOr int int" => (k_here; (fail_if_success (with_reducible show wpAny _ _ (inplaceOp _ (Value.int (OfNat.ofNat _) _) (Value.int (OfNat.ofNat _) _)) _ _ _)); (with_reducible refine o_ior ?_); walk_at "op line")
  k_with "binaryOp RShift int int" => (k_here; (fail_if_success (with_reducible show wpAny _ _ (binaryOp _ (Value.int (OfNat.ofNat _) _) (Value.int (OfNat.ofNat _) _)) _ _ _)); (with_reducible refine o_rsh ?zq9kb1 ?_); (case zq9kb1 => l_bnd); walk_at "op line")
  k_with "inplaceOp RShift int int" => (k_here; (fail_if_success (with_reducible show wpAny _ _ (inplaceOp _ (Value.int (OfNat.ofNat _) _) (Value.int (OfNat.ofNat _) _)) _ _ _)); (with_reducible refine o_irsh ?zq9kb1 ?_); (case zq9kb1 => l_bnd); walk_at "op line")
  k_with "binaryOp LShift int int" => (k_here; (fail_if_success (with_reducible show wpAny _ _ (binaryOp _ (Value.int (OfNat.ofNat _) _) (Value.int (OfNat.ofNat _) _)) _ _ _)); (with_reducible refine o_lsh ?zq9kb1 ?zq9kb2 ?zq9kb3 ?_); (case zq9kb1 => l_bnd); (case zq9kb2 => l_bnd); (case zq9kb3 => l_bnd); walk_at "op line")
  k_with "pure enter" => (refine' code_pure ?zq9k1 ?zq9k2 ?zq9k3 ?zq9k5 ?zq9kA ?zq9kF ?zq9kK ?zq9k6 ?zq9k7 ?zq9k8 ?zq9k9 ?zq9kB ?_ ?zq9c2 ?zq9c3 ?zq9c4 ?zq9c5; (case zq9kA => exact rfl); (case zq9kF => exact rfl); (case zq9kK => assumption); (case zq9k1 => k_asm); (case zq9k2 => k_asm); (case zq9k3 => k_asm); (case zq9k5 => k_asm); (case zq9k6 => k_is); (case zq9k7 => k_is); (case zq9k8 => ktr_room); (case zq9k9 => exact BindsTo.of_eq rfl); (case zq9c5 => decide); (case zq9kB => exact locs rfl); (case zq9c2 => exact rfl); (case zq9c3 => exact rfl); (case zq9c4 => exact rfl); k_whole; intro L' h' F' N' B' X' T'; (try dsimp only); (try k_lift B'); (try k_fold))
  k_with "passes own line" => (with_reducible exact PySem.PassesOwn.leaving)
  k_with "kst facts1 line" => (first | with_reducible assumption | ((repeat (with_reducible refine IntsAre.cons _ _ ?_)); with_reducible exact IntsAre.nil) | exact IntsAre.append (by with_reducible assumption) (by with_reducible assumption) | exact IntsAre.append (by kst_facts1) (IntsAre.cons _ _ IntsAre.nil) | exact IntsAre.append (by kst_facts1) (IntsAre.cons _ _ (IntsAre.cons _ _ (IntsAre.cons _ _ IntsAre.nil))))
  k_with "sz" => ((try law_lens); (try simp only [List.size_toArray, Array.size_append, Array.size_push, Array.length_toList, List.length_append, List.length_cons, List.length_nil, List.length_reverse, List.length_map, PySem.sizeLine_eq] at *); omega)
  k_with "call builtin:list.reverse" => (k_here; (with_reducible show wpAny _ _ (call (Value.builtin _) [Value.ref _]) _ _ _); k_dflt (refine' kl_reverse ?zq9F ?zq9N ?zq9e ?zq9U ?zq9z ?_; (case zq9F => k_asm); (case zq9N => k_asm); (case zq9e => exact rfl); (case zq9U => k_upd); (case zq9z => walk_at "sz")); intro h' F' N'; (try k_sweep))
  k_with "all and" => ((repeat' (with_reducible apply And.intro)) <;> first | trivial | assumption | omega)
  k_with "exec While Compare cons nil" => (k_dflt (k_extra "while"))
  k_with "exec While BoolOp cons nil" => (k_dflt (k_extra "while"))
  k_with "exec While" => (k_dflt (k_extra "while"))
  k_with "use side" => ((case k1 => k_asm); (case k2 => k_asm); (case k3 => k_asm); (case k4 => k_asm); (case k5 => k_asm); (case kK => first | exact rfl | assumption); (case kd => ktr_room); (case ku => ktr_units))
  k_with "use new" => ((try simp only [AllNe, and_true] at l1); (try k_sweep); (try dsimp only); (try k_fold))
  k_with "is list" => first | exact trivial | assumption | exact News.isList (by k_asm) (by k_mem) | exact stays_list (Fr.keep (by k_asm)) (by assumption)
  k_with "call ref" => (k_dflt (k_extra "call"))
  k_with "exec Raise some none" => (k_dflt (exfalso; k_extra "raise"))
  k_with "for enter" => (ktd_said "for"; k_here; (rename Fr _ _ _ _ => lF'); (with_unfolding_all refine' For_invVF lF' ?zq9k1 ?zq9k2 ?_; (case zq9k1 => exact rfl); (case zq9k2 => exact rfl); k_whole))
  k_with "exec For Name Subscript cons nil" => (k_dflt (walk_at "for enter"))
  k_with "exec For Name Name cons nil" => (k_dflt (walk_at "for enter"))
  k_with "exec For Name Call cons nil" => (k_dflt (walk_at "for enter"))
  k_with "pyIter ref" => (k_dflt (k_extra "for"))
  k_with "exec Raise some none" => (k_dflt (k_extra "raise die"))
  k_with "turn enter" => (refine' code_turn ?zq9k1 ?zq9k2 ?zq9k3 ?zq9k5 ?zq9kD ?zq9kA ?zq9kF ?zq9kK ?zq9k6 ?zq9k7 ?zq9k8 ?zq9k9 ?zq9kB ?_ ?zq9c2 ?zq9c3 ?zq9c4 ?zq9c5; (case zq9kA => exact rfl); (case zq9kF => exact rfl); (case zq9kK => assumption); (case zq9k1 => k_asm); (case zq9k2 => k_asm); (case zq9k3 => k_asm); (case zq9k5 => k_asm); (case zq9kD => k_asm); (case zq9k6 => k_is); (case zq9k7 => k_is); (case zq9k8 => ktr_room); (case zq9k9 => exact BindsTo.of_eq rfl); (case zq9c5 => decide); (case zq9kB => exact locs rfl); (case zq9c2 => exact rfl); (case zq9c3 => exact rfl); (case zq9c4 => exact rfl); k_whole; intro L' h' F' N' B' X' T' D'; (try dsimp only); (try k_lift B'); (try k_fold))
  k_with "LeaveT" => (k_dflt (refine' leaveT_ ?zq9T9 ?zq9F9 ?_; (case zq9F9 => k_asm); (case zq9T9 => first | exact KtsTurn.refl | assumption)); intro tT; (try dsimp only))
  k_with "new pair" => (intro l' t' u' h' tk' F' N' l1; (try simp only [AllNe, and_true] at l1); (try k_sweep); (try dsimp only); (try k_fold))
  k_with "new ints" => (intro l' vs' n' h' tk' F' N' l1 hI'; (try simp only [AllNe, and_true] at l1); (try k_sweep); (try dsimp only); (try k_fold))
  k_with "grow turn" => (intro gVs gNs gK gPre gT gU gH gTk gI gIt gLt gCls l1 gIs gP gF gN; (try k_lt l1); have kM := kstMark; (try k_fold))
  k_with "grow done" => (intro gVs gNs gK gU gH gTk gI gP gF gN; have kM := kstMark; (try k_fold))
  k_with "eval Call" => (ktd_said "call"; k_here; k_dflt (refine Call_ ?_))
  k_with "new int" => (intro u' h' tk' F' N'; (try k_sweep); (try dsimp only); (try k_fold))
  k_with "eval BinOp" => (k_dflt (k_extra "fact"))
  k_with "new bool" => (intro h' tk' F' N'; (try k_sweep); (try dsimp only); (try k_fold))
  k_with "call builtin:list.extend" => (k_here; (with_reducible show wpAny _ _ (call (Value.builtin _) [Value.ref _, Value.ref _]) _ _ _); k_dflt (refine' my_extend ?zq9F ?zq9N ?zq9b ?zq9U ?zq9ne ?zq9z ?_; (case zq9F => k_asm); (case zq9N => k_asm); (case zq9b => k_mem); (case zq9U => k_upd); (case zq9ne => walk_at "sz"); (case zq9z => walk_at "sz")); intro h' F' N'; (try k_sweep))
  k_with "op line" => (intro opX opE; (try simp only [bitAnd_m1, bitAnd_m4, bitAnd_m6, bitAnd_m7, bitAnd_m8, Int.reduceToNat, Int.reducePow] at opE); (try k_dflt (k_extra "op")))
  k_with "call builtin:min" => ((with_reducible show wpAny _ _ (call (Value.builtin _) [Value.int _ _, Value.int _ _]) _ _ _); ktd_said "min"; (with_reducible rename News _ _ _ _ => N'); (with_unfolding_all apply min_two_N); (case hh => with_unfolding_all rfl); (case N => exact N'); (case F => assumption); clear N'; intro _ _ _ _; k_dflt (k_extra "min"))
  k_with "kmk size line" => ((refine kmk_sz (by l_ints) ?_; rw [PySem.sizeLine_eq]; omega))
  k_with "InvEndN" => (k_dflt kst_close)
  k_with "ite" => (k_here; k_closed; k_dflt (first | refine ite_pos (by decide) ?_ | refine ite_neg (by decide) ?_))
  k_with "sz" => ((simp only [List.size_toArray, Array.size_append, Array.size_push, Array.length_toList, List.length_append, List.length_cons, List.length_nil, List.length_reverse, List.length_map, PySem.sizeLine_eq]); first | omega | (law_lens; omega))
  k_with "kmk nums line" => (first | ((with_reducible refine' kmk_run ?zq9ka ?zq9kb ?zq9kc); (case zq9ka => l_ints); (case zq9kb => kmk_sign); (case zq9kc => kmk_sign)) | ((with_reducible refine' kmk_from ?zq9ka ?zq9kb); (case zq9ka => l_ints); (case zq9kb => kmk_sign)) | ((with_reducible refine' kmk_upto ?zq9ka ?zq9kb); (case zq9ka => l_ints); (case zq9kb => kmk_sign)) | ((with_reducible refine' kmk_upto_neg ?zq9ka ?zq9kb); (case zq9ka => l_ints); (case zq9kb => kmk_sign)))
  k_with "k ne line" => ((refine neN ?_; (try dsimp only); with_reducible first | assumption | exact Ne.symm (by assumption) | exact Nat.ne_of_lt (by assumption) | exact Nat.ne_of_gt (by assumption)))
  k_with "execs cons" => ((with_reducible refine Mine.execs_seq ?_); intro qk)
  k_dflt walk_at "pure enter"
  rcases hu : isU ns a₀ with _ | _
  case' true => (have hlt9 : a₀ < ns.length := by (have := of_decide_eq_true hu; omega))
  all_goals (k_with "call" => ((refine' use_bool (isUu_c w _ _ _ _ _ hI hlen ha) ?k1 ?k2 ?k3 ?k4 ?k5 ?kK ?kd ?ku ?kp ?_); (case kp => walk_at "is list"); walk_at "use side"; rw [hu]; walk_at "new bool"))
  all_goals (repeat' (first | ((with_reducible first | refine Mine.seq_nil ?_ | refine Mine.seq_next ?_ | refine Mine.seq_ret ?_); (try dsimp only)) | (k_unfold; (try dsimp only)) | (k_end; kc_close) | walk1 | (dsimp only; walk1) | (leave1; walk_say "STEP leave1"; try dsimp only) | fail "no step"))
  all_goals refine pcall_ret hret (by assumption) ?_
  · rw [show sixU ns a₀ = (ns.getD a₀.toNat 0 - 32) % 64 by unfold sixU; rw [hu]; rfl]
    (rename (_ = _ % 64) => e9)
    rw [← e9]
    exact ⟨_, rfl⟩
  · rw [show sixU ns a₀ = 0 by unfold sixU; rw [hu]; rfl]
    exact ⟨_, rfl⟩
end Mine
-- Mt
open PySem PySem.W PyProof.Rows PySem.Calls PySem.Spec
namespace Mine
/-- entering a def that may change these objects of the caller's -/
theorem code_mut {prog : Program} {w : World} {A A₀ : Around} {s : Shared} {K : Frag} {L : Addr} {h₀ base : Heap} {m mg mb : Str → Option Value} {p : Program} {loose : List Str} {mean : ExcName → Option Value} {news : List (Addr × Obj)}
    {env : Env} {outer : List Env} {R : Result → Shared → Prop} {name qual : Str} {params : Arguments} {body : List Stmt} {scope : Scope} {dV kV doc pm cdv ct oc : Value} {an od : Option Addr} {osl : Array (Option Value)} {f : Addr} {args : Args} {binds : List (Str × Value)}
    (B : Below A₀ base outer h₀) (F : Fr h₀ L s.heap m) (X₀ : K.In h₀) (T : Top p loose mean mg mb h₀) (N : News h₀ L s.heap news) (hA : A.frames = some (env :: outer)) (hf : env.frame = some L) (hke : env.scope.kind = .function)
    (ho : K.lookup f = some ⟨oc, od, .func (fnOf name qual params body scope dV kV doc pm an cdv ct), osl⟩) (hcd : codeIn K cdv qual = true) (hroom : A.depth < recursionLimit)
    (hbind : BindsTo s (fnOf name qual params body scope dV kV doc pm an cdv ct) args binds) (hloc : ∀ y ∈ binds, scope.names.lookup y.1 = some .local)
    (h : ∀ g L' h₁, g = hideAll s.heap (news.map (·.1)) → Fr g L' h₁ (fun y => binds.reverse.lookup y) → News g L' h₁ news → Below A base (env :: outer) g → K.In g → Top p loose mean mg mb g → (∀ p ∈ news, p.1 < L') →
      wpAny (model prog w) (A.deeper (envOf qual scope L' f cdv)) (execs body (envOf qual scope L' f cdv))
        (fun fl s' => LeaveK h₀ L m g R (match fl with | .ret v => v | _ => .none) s')
        (fun e s' => wpAny (model prog w) (A.deeper (envOf qual scope L' f cdv)) (leaving (envOf qual scope L' f cdv) e) (fun _ s'' => R (.error e) s'') (fun e' s'' => R (.error e') s'') s')
        { s with heap := h₁, toks := s.toks + binds.length })
    (hco : scope.isCoroutine = false) (hgen : scope.isGenerator = false) (hk : scope.kind = .function)
    (hcell : ∀ x ∈ scope.names, x.2 ≠ .cell) : codeAny (model prog w) A (.call (.ref f) args) R s := by
  obtain ⟨FG, BG, st, lv⟩ := groundX (R := R) B F N hA hf hke
  refine codeAny_call_def (fd := fnOf name qual params body scope dV kV doc pm an cdv ct) (body := body) (binds := binds) hroom ((X₀.keeps F.keep) _ _ ho) rfl (T.nolimit.keeps F.keep) (codeRec_of (X₀.keeps F.keep) hcd) rfl hbind hcell hloc (fun h₁ hns hk₁ => ?_) hco hgen hk
  refine wpAny_mono (h _ s.heap.objs.size h₁ rfl ⟨hns, fun b o e => hk₁ b o (of_hideAll _ e), Nat.le_of_eq (hideAll_size _ _)⟩ (fun q hq => ⟨hk₁ _ _ (N q hq).1, ?_, hideAll_none _ (List.mem_map.mpr ⟨q, hq, rfl⟩)⟩) BG (X₀.keeps st) (T.keeps st) (fun q hq => Heap.lt_size (N q hq).1)) (fun fl s' hl => lv _ _ hl) fun _ _ y => y
  exact Nat.ne_of_lt (Heap.lt_size (N q hq).1)

/-- as PCall; the object at a may change -/
def MCall (w : World) (d : Nat) (f : Addr) (args : List Value) (a : Addr) (o : Obj) (pre : Heap → Prop) (post : Heap → Heap → Value → Obj → Prop) : Prop :=
  ∀ (mean : ExcName → Option Value) (mg mb : Str → Option Value) (dp un : Nat) (gd : Option (List Code)) (cn : Str) (cs : Scope) (aC : Addr) (ccd : Value) (cl : List (Str × Addr)) (outer : List Env) (A₀ : Around) (base h₀ : Heap) (L : Addr) (m : Str → Option Value) (s : Shared)
    (Q E : Value → Shared → Prop),
    Below A₀ base outer h₀ → Fr h₀ L s.heap m → (Mine.frag w.params).In h₀ → Top Mine.view lks mean mg mb h₀ → cs.kind = .function → dp + d < recursionLimit → un + 10 * d < cLine → News h₀ L s.heap [(a, o)] → pre (hideAll s.heap [a]) →
    (∀ r h' tk' o', (hideAll s.heap [a]).StaysIn h' → h'.get? a = some o' → post (hideAll s.heap [a]) h' r o' → Q r { s with heap := h', toks := tk' }) →
    wpAny (model prg w) (ktrTop dp un gd cn cs L aC ccd cl outer) (call (.ref f) args) Q E s

theorem isList_hide {h : Heap} {l a : Addr} {vs : Array Value} (H : h.IsList l vs) (ne : @Ne Nat l a) : (hideAll h [a]).IsList l vs := by
  obtain ⟨o, ho, r⟩ := H
  exact ⟨o, hideAll_get _ ho (fun q => ne (List.mem_singleton.mp q)), r⟩
theorem stays_of {g h₀ h' : Heap} {L : Addr} {m : Str → Option Value} (hg : g = h₀) (F : Fr g L h' m) : h₀.StaysIn h' := hg ▸ F.keep
theorem news_get {g h' : Heap} {L a : Addr} {news : List (Addr × Obj)} {o' : Obj} (N : News g L h' news) (hm : (a, o') ∈ news) : h'.get? a = some o' := (N _ hm).1
section
variable {w : World} {d : Nat} {f : Addr} {args : List Value} {pre : Heap → Prop} {mean : ExcName → Option Value} {mg mb : Str → Option Value} {dp un : Nat} {gd : Option (List Code)} {cn : Str} {cs : Scope} {aC : Addr} {ccd : Value} {cl : List (Str × Addr)} {outer : List Env} {A₀ : Around} {base h₀ : Heap} {L a : Addr} {m : Str → Option Value} {s : Shared}
    {Q E : Value → Shared → Prop} {news : List (Addr × Obj)} {o : Obj}
theorem use_mut {post : Heap → Heap → Value → Obj → Prop} (C : MCall w d f args a o pre post) (B : Below A₀ base outer h₀) (F : Fr h₀ L s.heap m) (X : (Mine.frag w.params).In h₀) (N : News h₀ L s.heap news) (hm : (a, o) ∈ news) (T : Top Mine.view lks mean mg mb h₀) (hk : cs.kind = .function)
    (hdp : dp + d < recursionLimit) (hun : un + 10 * d < cLine) (hp : pre (hideAll s.heap [a]))
    (ret : ∀ r h' tk' o', Fr h₀ L h' m → (∀ news', Upd a o o' news news' → News h₀ L h' news') → post (hideAll s.heap [a]) h' r o' → Q r { s with heap := h', toks := tk' }) :
    wpAny (model prg w) (ktrTop dp un gd cn cs L aC ccd cl outer) (call (.ref f) args) Q E s := by
  refine C _ _ _ _ _ _ _ _ _ _ _ _ _ _ _ _ _ _ _ _ B F X T hk hdp hun (fun q hq => by cases List.mem_singleton.mp hq; exact N _ hm) hp fun r h' tk' o' k e p => ret r h' tk' o' ?_ ?_ p
  · obtain ⟨oL, es, ep, hL, hLd, hLk, hLf⟩ := F.ns
    have na := N _ hm
    refine ⟨⟨oL, es, ep, k _ _ (hideAll_get _ hL fun q => na.2.1 (List.mem_singleton.mp q).symm), hLd, hLk, hLf⟩, fun b ob eb => k _ _ (hideAll_get _ (F.keep b ob eb) fun q => ?_), F.above⟩
    have z := na.2.2
    rw [List.mem_singleton.mp q] at eb
    rw [show ((a, o) : Addr × Obj).1 = a from rfl] at z
    rw [z] at eb; cases eb
  · intro news' U
    obtain ⟨own, rest, rfl, rfl, h1, h2⟩ := U.split
    have other : ∀ q : Addr × Obj, q ∈ own ++ (a, o) :: rest → q.1 ≠ a → h'.get? q.1 = some q.2 ∧ q.1 ≠ L ∧ h₀.get? q.1 = none := fun q hq ne => by
      have z := N q hq
      exact ⟨k _ _ (hideAll_get _ z.1 fun w => ne (List.mem_singleton.mp w)), z.2⟩
    intro q hq
    rcases List.mem_append.mp hq with hq | hq
    · exact other q (List.mem_append_left _ hq) (h1 q hq)
    · rcases List.mem_cons.mp hq with rfl | hq
      · exact ⟨e, (N (a, o) hm).2⟩
      · exact other q (List.mem_append_right _ (.tail _ hq)) (h2 q hq)
end
end Mine
-- M1
open PySem PySem.W PyProof.Rows PySem.Calls PySem.Spec
namespace Mine
/-- the mill: the script's first items, and how many were taken -/
def millO (l : Addr) (k : Int) (o : Obj) : Prop := ∃ t n, o = listOf #[.ref l, .int k t] n
/-- a call that turns the mill and hands an int back -/
theorem use_mill {w : World} {d : Nat} {f : Addr} {args : List Value} {pre : Heap → Prop} {mean : ExcName → Option Value} {mg mb : Str → Option Value} {dp un : Nat} {gd : Option (List Code)} {cn : Str} {cs : Scope} {aC : Addr} {ccd : Value} {cl : List (Str × Addr)} {outer : List Env} {A₀ : Around} {base h₀ : Heap} {L a l : Addr} {m : Str → Option Value} {s : Shared}
    {Q E : Value → Shared → Prop} {news : List (Addr × Obj)} {o : Obj} {c k : Int} (C : MCall w d f args a o pre (fun _ _ r o' => (∃ x u, r = .int x u ∧ 0 ≤ x ∧ x < c) ∧ millO l k o')) (B : Below A₀ base outer h₀) (F : Fr h₀ L s.heap m) (X : (Mine.frag w.params).In h₀) (N : News h₀ L s.heap news) (hm : (a, o) ∈ news) (T : Top Mine.view lks mean mg mb h₀) (hk : cs.kind = .function)
    (hdp : dp + d < recursionLimit) (hun : un + 10 * d < cLine) (hp : pre (hideAll s.heap [a]))
    (ret : ∀ x u h' tk' t9 n9, 0 ≤ x → x < c → Fr h₀ L h' m → (∀ news', Upd a o (listOf #[.ref l, .int k t9] n9) news news' → News h₀ L h' news') → Q (.int x u) { s with heap := h', toks := tk' }) :
    wpAny (model prg w) (ktrTop dp un gd cn cs L aC ccd cl outer) (call (.ref f) args) Q E s :=
  use_mut C B F X N hm T hk hdp hun hp fun _ h' tk' _ F' N9 p => p.1.elim fun x e => e.elim fun u e => p.2.elim fun t9 z => z.elim fun n9 eo => e.1 ▸ ret x u h' tk' t9 n9 e.2.1 e.2.2 F' (eo ▸ N9)
set_option maxHeartbeats 8000000 in
theorem crank_c (w : World) (a l : Addr) (vs : List Value) (ns : List Int) (k c : Int) (t t2 : Tok) (n : Nat) (hI : IntsAre vs ns) (hlen : ns.length ≤ 1000) (hk : 0 ≤ k) (hk2 : k ≤ 1000) (hc : 0 < c) (hc2 : c ≤ 1000) :
    MCall w 5 180 [.ref a, .int c t] a (listOf #[.ref l, .int k t2] n) (fun h => h.IsList l vs.toArray) (fun _ _ r o' => (∃ x u, r = .int x u ∧ 0 ≤ x ∧ x < c) ∧ millO l (k + 1) o') := by
  unfold MCall prg
  k_fill
  intro mean mg mb dp un gd cn cs aC ccd cl outer A₀ base h₀ L m s Q E hB hF hX hT hK hDp hUn hN hpre hret
  refine wpAny_call ?_
  k_with_none
  k_with "op line" => (intro opX opE; (try simp only [bitAnd_m1, bitAnd_m4, bitAnd_m6, bitAnd_m7, bitAnd_m8, Int.reduceToNat, Int.reducePow] at opE))
  k_with "binaryOp BitAnd int int" => (k_here; (fail_if_success (with_reducible show wpAny _ _ (binaryOp _ (Value.int (OfNat.ofNat _) _) (Value.int (OfNat.ofNat _) _)) _ _ _)); (with_reducible refine o_and ?_); walk_at "op line")
  k_with "inplaceOp BitAnd int int" => (k_here; (fail_if_success (with_reducible show wpAny _ _ (inplaceOp _ (Value.int (OfNat.ofNat _) _) (Value.int (OfNat.ofNat _) _)) _ _ _)); (with_reducible refine o_iand ?_); walk_at "op line")
  k_with "binaryOp BitOr int int" => (k_here; (fail_if_success (with_reducible show wpAny _ _ (binaryOp _ (Value.int (OfNat.ofNat _) _) (Value.int (OfNat.ofNat _) _)) _ _ _)); (with_reducible refine o_or ?_); walk_at "op line")
  k_with "inplaceOp BitOr int int" => (k_here; (fail_if_success (with_reducible show wpAny _ _ (inplaceOp _ (Value.int (OfNat.ofNat _) _) (Value.int (OfNat.ofNat _) _)) _ _ _)); (with_reducible refine o_ior ?_); walk_at "op line")
  k_with "binaryOp RShift int int" => (k_here; (fail_if_success (with_reducible show wpAny _ _ (binaryOp _ (Value.int (OfNat.ofNat _) _) (Value.int (OfNat.ofNat _) _)) _ _ _)); (with_reducible refine o_rsh ?zq9kb1 ?_); (case zq9kb1 => l_bnd); walk_at "op line")
  k_with "inplaceOp RShift int int" => (k_here; (fail_if_success (with_reducible show wpAny _ _ (inplaceOp _ (Value.int (OfNat.ofNat _) _) (Value.int (OfNat.ofNat _) _)) _ _ _)); (with_reducible refine o_irsh ?zq9kb1 ?_); (case zq9kb1 => l_bnd); walk_at "op line")
  k_with "binaryOp LShift int int" => (k_here; (fail_if_success (with_reducible show wpAny _ _ (binaryOp _ (Value.int (OfNat.ofNat _) _) (Value.int (OfNat.ofNat _) _)) _ _ _)); (with_reducible refine o_lsh ?zq9kb1 ?zq9kb2 ?zq9kb3 ?_); (case zq9kb1 => l_bnd); (case zq9kb2 => l_bnd); (case zq9kb3 => l_bnd); walk_at "op line")
  k_with "pure enter" => (refine' code_pure ?zq9k1 ?zq9k2 ?zq9k3 ?zq9k5 ?zq9kA ?zq9kF ?zq9kK ?zq9k6 ?zq9k7 ?zq9k8 ?zq9k9 ?zq9kB ?_ ?zq9c2 ?zq9c3 ?zq9c4 ?zq9c5; (case zq9kA => exact rfl); (case zq9kF => exact rfl); (case zq9kK => assumption); (case zq9k1 => k_asm); (case zq9k2 => k_asm); (case zq9k3 => k_asm); (case zq9k5 => k_asm); (case zq9k6 => k_is); (case zq9k7 => k_is); (case zq9k8 => ktr_room); (case zq9k9 => exact BindsTo.of_eq rfl); (case zq9c5 => decide); (case zq9kB => exact locs rfl); (case zq9c2 => exact rfl); (case zq9c3 => exact rfl); (case zq9c4 => exact rfl); k_whole; intro L' h' F' N' B' X' T'; (try dsimp only); (try k_lift B'); (try k_fold))
  k_with "passes own line" => (with_reducible exact PySem.PassesOwn.leaving)
  k_with "kst facts1 line" => (first | with_reducible assumption | ((repeat (with_reducible refine IntsAre.cons _ _ ?_)); with_reducible exact IntsAre.nil) | exact IntsAre.append (by with_reducible assumption) (by with_reducible assumption) | exact IntsAre.append (by kst_facts1) (IntsAre.cons _ _ IntsAre.nil) | exact IntsAre.append (by kst_facts1) (IntsAre.cons _ _ (IntsAre.cons _ _ (IntsAre.cons _ _ IntsAre.nil))))
  k_with "sz" => ((try law_lens); (try simp only [List.size_toArray, Array.size_append, Array.size_push, Array.length_toList, List.length_append, List.length_cons, List.length_nil, List.length_reverse, List.length_map, PySem.sizeLine_eq] at *); omega)
  k_with "call builtin:list.reverse" => (k_here; (with_reducible show wpAny _ _ (call (Value.builtin _) [Value.ref _]) _ _ _); k_dflt (refine' kl_reverse ?zq9F ?zq9N ?zq9e ?zq9U ?zq9z ?_; (case zq9F => k_asm); (case zq9N => k_asm); (case zq9e => exact rfl); (case zq9U => k_upd); (case zq9z => walk_at "sz")); intro h' F' N'; (try k_sweep))
  k_with "all and" => ((repeat' (with_reducible apply And.intro)) <;> first | trivial | assumption | omega)
  k_with "exec While Compare cons nil" => (k_dflt (k_extra "while"))
  k_with "exec While BoolOp cons nil" => (k_dflt (k_extra "while"))
  k_with "exec While" => (k_dflt (k_extra "while"))
  k_with "use side" => ((case k1 => k_asm); (case k2 => k_asm); (case k3 => k_asm); (case k4 => k_asm); (case k5 => k_asm); (case kK => first | exact rfl | assumption); (case kd => ktr_room); (case ku => ktr_units))
  k_with "use new" => ((try simp only [AllNe, and_true] at l1); (try k_sweep); (try dsimp only); (try k_fold))
  k_with "is list" => first | exact trivial | assumption | exact News.isList (by k_asm) (by k_mem) | exact stays_list (Fr.keep (by k_asm)) (by assumption)
  k_with "call ref" => (k_dflt (k_extra "call"))
  k_with "exec Raise some none" => (k_dflt (exfalso; k_extra "raise"))
  k_with "for enter" => (ktd_said "for"; k_here; (rename Fr _ _ _ _ => lF'); (with_unfolding_all refine' For_invVF lF' ?zq9k1 ?zq9k2 ?_; (case zq9k1 => exact rfl); (case zq9k2 => exact rfl); k_whole))
  k_with "exec For Name Subscript cons nil" => (k_dflt (walk_at "for enter"))
  k_with "exec For Name Name cons nil" => (k_dflt (walk_at "for enter"))
  k_with "exec For Name Call cons nil" => (k_dflt (walk_at "for enter"))
  k_with "pyIter ref" => (k_dflt (k_extra "for"))
  k_with "exec Raise some none" => (k_dflt (k_extra "raise die"))
  k_with "turn enter" => (refine' code_turn ?zq9k1 ?zq9k2 ?zq9k3 ?zq9k5 ?zq9kD ?zq9kA ?zq9kF ?zq9kK ?zq9k6 ?zq9k7 ?zq9k8 ?zq9k9 ?zq9kB ?_ ?zq9c2 ?zq9c3 ?zq9c4 ?zq9c5; (case zq9kA => exact rfl); (case zq9kF => exact rfl); (case zq9kK => assumption); (case zq9k1 => k_asm); (case zq9k2 => k_asm); (case zq9k3 => k_asm); (case zq9k5 => k_asm); (case zq9kD => k_asm); (case zq9k6 => k_is); (case zq9k7 => k_is); (case zq9k8 => ktr_room); (case zq9k9 => exact BindsTo.of_eq rfl); (case zq9c5 => decide); (case zq9kB => exact locs rfl); (case zq9c2 => exact rfl); (case zq9c3 => exact rfl); (case zq9c4 => exact rfl); k_whole; intro L' h' F' N' B' X' T' D'; (try dsimp only); (try k_lift B'); (try k_fold))
  k_with "LeaveT" => (k_dflt (refine' leaveT_ ?zq9T9 ?zq9F9 ?_; (case zq9F9 => k_asm); (case zq9T9 => first | exact KtsTurn.refl | assumption)); intro tT; (try dsimp only))
  k_with "new pair" => (intro l' t' u' h' tk' F' N' l1; (try simp only [AllNe, and_true] at l1); (try k_sweep); (try dsimp only); (try k_fold))
  k_with "new ints" => (intro l' vs' n' h' tk' F' N' l1 hI'; (try simp only [AllNe, and_true] at l1); (try k_sweep); (try dsimp only); (try k_fold))
  k_with "grow turn" => (intro gVs gNs gK gPre gT gU gH gTk gI gIt gLt gCls l1 gIs gP gF gN; (try k_lt l1); have kM := kstMark; (try k_fold))
  k_with "grow done" => (intro gVs gNs gK gU gH gTk gI gP gF gN; have kM := kstMark; (try k_fold))
  k_with "eval Call" => (ktd_said "call"; k_here; k_dflt (refine Call_ ?_))
  k_with "new int" => (intro u' h' tk' F' N'; (try k_sweep); (try dsimp only); (try k_fold))
  k_with "eval BinOp" => (k_dflt (k_extra "fact"))
  k_with "new bool" => (intro h' tk' F' N'; (try k_sweep); (try dsimp only); (try k_fold))
  k_with "call builtin:list.extend" => (k_here; (with_reducible show wpAny _ _ (call (Value.builtin _) [Value.ref _, Value.ref _]) _ _ _); k_dflt (refine' my_extend ?zq9F ?zq9N ?zq9b ?zq9U ?zq9ne ?zq9z ?_; (case zq9F => k_asm); (case zq9N => k_asm); (case zq9b => k_mem); (case zq9U => k_upd); (case zq9ne => walk_at "sz"); (case zq9z => walk_at "sz")); intro h' F' N'; (try k_sweep))
  k_with "op line" => (intro opX opE; (try simp only [bitAnd_m1, bitAnd_m4, bitAnd_m6, bitAnd_m7, bitAnd_m8, Int.reduceToNat, Int.reducePow] at opE); (try k_dflt (k_extra "op")))
  k_with "call builtin:min" => ((with_reducible show wpAny _ _ (call (Value.builtin _) [Value.int _ _, Value.int _ _]) _ _ _); ktd_said "min"; (with_reducible rename News _ _ _ _ => N'); (with_unfolding_all apply min_two_N); (case hh => with_unfolding_all rfl); (case N => exact N'); (case F => assumption); clear N'; intro _ _ _ _; k_dflt (k_extra "min"))
  k_with "kmk size line" => ((refine kmk_sz (by l_ints) ?_; rw [PySem.sizeLine_eq]; omega))
  k_with "InvEndN" => (k_dflt kst_close)
  k_with "ite" => (k_here; k_closed; k_dflt (first | refine ite_pos (by decide) ?_ | refine ite_neg (by decide) ?_))
  k_with "sz" => ((simp only [List.size_toArray, Array.size_append, Array.size_push, Array.length_toList, List.length_append, List.length_cons, List.length_nil, List.length_reverse, List.length_map, PySem.sizeLine_eq]); first | omega | (law_lens; omega))
  k_with "kmk nums line" => (first | ((with_reducible refine' kmk_run ?zq9ka ?zq9kb ?zq9kc); (case zq9ka => l_ints); (case zq9kb => kmk_sign); (case zq9kc => kmk_sign)) | ((with_reducible refine' kmk_from ?zq9ka ?zq9kb); (case zq9ka => l_ints); (case zq9kb => kmk_sign)) | ((with_reducible refine' kmk_upto ?zq9ka ?zq9kb); (case zq9ka => l_ints); (case zq9kb => kmk_sign)) | ((with_reducible refine' kmk_upto_neg ?zq9ka ?zq9kb); (case zq9ka => l_ints); (case zq9kb => kmk_sign)))
  k_with "k ne line" => ((refine neN ?_; (try dsimp only); with_reducible first | assumption | exact Ne.symm (by assumption) | exact Nat.ne_of_lt (by assumption) | exact Nat.ne_of_gt (by assumption)))
  k_with "execs cons" => ((with_reducible refine Mine.execs_seq ?_); intro qk)
  k_with "mut enter" => (refine' code_mut ?zq9k1 ?zq9k2 ?zq9k3 ?zq9k5 ?zq9kN ?zq9kA ?zq9kF ?zq9kK ?zq9k6 ?zq9k7 ?zq9k8 ?zq9k9 ?zq9kB ?_ ?zq9c2 ?zq9c3 ?zq9c4 ?zq9c5; (case zq9kA => exact rfl); (case zq9kF => exact rfl); (case zq9kK => assumption); (case zq9k1 => k_asm); (case zq9k2 => k_asm); (case zq9k3 => k_asm); (case zq9k5 => k_asm); (case zq9kN => assumption); (case zq9k6 => k_is); (case zq9k7 => k_is); (case zq9k8 => ktr_room); (case zq9k9 => exact BindsTo.of_eq rfl); (case zq9c5 => decide); (case zq9kB => exact locs rfl); (case zq9c2 => exact rfl); (case zq9c3 => exact rfl); (case zq9c4 => exact rfl); k_whole; intro g' L' h' hG9 F' N' B' X' T' l1; (try k_lt l1); (try dsimp only); (try k_lift B'); (try k_fold))
  k_dflt walk_at "mut enter"
  (rename _ = hideAll _ _ => hG9)
  have hG8 : _ = hideAll s.heap [a] := hG9
  rw [← hG8] at hpre
  (repeat' (first | ((with_reducible first | refine Mine.seq_nil ?_ | refine Mine.seq_next ?_ | refine Mine.seq_ret ?_); (try dsimp only)) | (k_unfold; (try dsimp only)) | (k_end; kc_close) | walk1 | (dsimp only; walk1) | (leave1; walk_say "STEP leave1"; try dsimp only) | fail "no step"))
  all_goals (refine hret _ _ _ _ (stays_of hG8 (by assumption)) (news_get (by assumption) (List.Mem.head _)) ⟨⟨_, _, rfl, ?_, ?_⟩, _, _, rfl⟩)
  all_goals (rw [Int.fmod_eq_emod_of_nonneg _ (by omega)])
  all_goals (first | exact Int.emod_nonneg _ (by omega) | exact Int.emod_lt_of_pos _ hc)
end Mine
-- B1
open PySem PySem.W PyProof.Rows PySem.Calls PySem.Spec
namespace Mine
section
variable {prog : Program} {w : World} {A : Around} {E : Value → Shared → Prop} {s : Shared} {a b : Int} {t u : Tok} {Q : Value → Shared → Prop}
theorem o_pow (hn : 0 ≤ b) (hn2 : b ≤ 1000000) (ha : a.natAbs < 2 ^ 64) (x : Int) (e : a ^ b.toNat = x) (h : Q (.int x s.toks) { s with toks := s.toks + 1 }) : wpAny (model prog w) A (binaryOp .Pow (.int a t) (.int b u)) Q E s := pow_int_small hn hn2 ha (by rw [e]; exact h)
end
end Mine
namespace Mine
/-- a new object is handed back -/
def NewOne (h₀ h : Heap) (r : Value) (P : Obj → Prop) : Prop := ∃ (p : Addr) (o : Obj), r = .ref p ∧ h.get? p = some o ∧ h₀.get? p = none ∧ P o
theorem newOne_of {h₀ h : Heap} {L p : Addr} {news : List (Addr × Obj)} {o : Obj} {P : Obj → Prop} (N : News h₀ L h news) (hm : (p, o) ∈ news) (hp : P o) : NewOne h₀ h (.ref p) P := ⟨p, o, rfl, (N _ hm).1, (N _ hm).2.2, hp⟩
section
variable {w : World} {d : Nat} {f : Addr} {args : List Value} {pre : Heap → Prop} {mean : ExcName → Option Value} {mg mb : Str → Option Value} {dp un : Nat} {gd : Option (List Code)} {cn : Str} {cs : Scope} {a : Addr} {ccd : Value} {cl : List (Str × Addr)} {outer : List Env} {A₀ : Around} {base h₀ : Heap} {L : Addr} {m : Str → Option Value} {s : Shared}
    {Q E : Value → Shared → Prop} {news : List (Addr × Obj)}
theorem use_one {P : Obj → Prop} (C : PCall w d f args pre (fun h₀ h r => NewOne h₀ h r P)) (B : Below A₀ base outer h₀) (F : Fr h₀ L s.heap m) (X : (Mine.frag w.params).In h₀) (N : News h₀ L s.heap news) (T : Top Mine.view lks mean mg mb h₀) (hk : cs.kind = .function)
    (hdp : dp + d < recursionLimit) (hun : un + 10 * d < cLine) (hp : pre s.heap)
    (ret : ∀ l o h' tk', P o → Fr h₀ L h' m → News h₀ L h' ((l, o) :: news) → AllNe l news → Q (.ref l) { s with heap := h', toks := tk' }) :
    wpAny (model prg w) (ktrTop dp un gd cn cs L a ccd cl outer) (call (.ref f) args) Q E s :=
  C _ _ _ _ _ _ _ _ _ _ _ _ _ _ _ _ _ _ _ _ B F X T hk hdp hun hp fun r h' tk' k p => by
    obtain ⟨p, o, rfl, e, e0, hP⟩ := p
    exact ret p o h' tk' hP (fr_stays F k) (news_add F N k e e0) (allNe_of e0 N)
inductive BoundsO : Obj → Prop
  | mk (t0 t1 t2 t3 t4 t5 t6 n) : BoundsO { cls := .type "tuple", data := .seq #[.int 0 t0, .int 128 t1, .int 2048 t2, .int 65536 t3, .int 2097152 t4, .int 67108864 t5, .int 2147483648 t6] n }
theorem use_bounds (C : PCall w d f args pre (fun h₀ h r => NewOne h₀ h r BoundsO)) (B : Below A₀ base outer h₀) (F : Fr h₀ L s.heap m) (X : (Mine.frag w.params).In h₀) (N : News h₀ L s.heap news) (T : Top Mine.view lks mean mg mb h₀) (hk : cs.kind = .function)
    (hdp : dp + d < recursionLimit) (hun : un + 10 * d < cLine) (hp : pre s.heap)
    (ret : ∀ l h' tk' t0 t1 t2 t3 t4 t5 t6 n, Fr h₀ L h' m → News h₀ L h' ((l, { cls := .type "tuple", data := .seq #[.int 0 t0, .int 128 t1, .int 2048 t2, .int 65536 t3, .int 2097152 t4, .int 67108864 t5, .int 2147483648 t6] n }) :: news) → AllNe l news → Q (.ref l) { s with heap := h', toks := tk' }) :
    wpAny (model prg w) (ktrTop dp un gd cn cs L a ccd cl outer) (call (.ref f) args) Q E s :=
  use_one C B F X N T hk hdp hun hp fun l o h' tk' hO F' N' l1 => by
    cases hO
    exact ret l h' tk' _ _ _ _ _ _ _ _ F' N' l1
end
set_option maxHeartbeats 8000000 in
theorem bounds_c (w : World) : PCall w 5 172 [] (fun _ => True) (fun h₀ h r => NewOne h₀ h r BoundsO) := by
  unfold PCall prg
  k_fill
  intro mean mg mb dp un gd cn cs aC ccd cl outer A₀ base h₀ L m s Q E hB hF hX hT hK hDp hUn hpre hret
  refine wpAny_call ?_
  k_with_none
  k_with "op line" => (intro opX opE; (try simp only [bitAnd_m1, bitAnd_m4, bitAnd_m6, bitAnd_m7, bitAnd_m8, Int.reduceToNat, Int.reducePow] at opE))
  k_with "binaryOp BitAnd int int" => (k_here; (fail_if_success (with_reducible show wpAny _ _ (binaryOp _ (Value.int (OfNat.ofNat _) _) (Value.int (OfNat.ofNat _) _)) _ _ _)); (with_reducible refine o_and ?_); walk_at "op line")
  k_with "inplaceOp BitAnd int int" => (k_here; (fail_if_success (with_reducible show wpAny _ _ (inplaceOp _ (Value.int (OfNat.ofNat _) _) (Value.int (OfNat.ofNat _) _)) _ _ _)); (with_reducible refine o_iand ?_); walk_at "op line")
  k_with "binaryOp BitOr int int" => (k_here; (fail_if_success (with_reducible show wpAny _ _ (binaryOp _ (Value.int (OfNat.ofNat _) _) (Value.int (OfNat.ofNat _) _)) _ _ _)); (with_reducible refine o_or ?_); walk_at "op line")
  k_with "inplaceOp BitOr int int" => (k_here; (fail_if_success (with_reducible show wpAny _ _ (inplaceOp _ (Value.int (OfNat.ofNat _) _) (Value.int (OfNat.ofNat _) _)) _ _ _)); (with_reducible refine o_ior ?_); walk_at "op line")
  k_with "binaryOp RShift int int" => (k_here; (fail_if_success (with_reducible show wpAny _ _ (binaryOp _ (Value.int (OfNat.ofNat _) _) (Value.int (OfNat.ofNat _) _)) _ _ _)); (with_reducible refine o_rsh ?zq9kb1 ?_); (case zq9kb1 => l_bnd); walk_at "op line")
  k_with "inplaceOp RShift int int" => (k_here; (fail_if_success (with_reducible show wpAny _ _ (inplaceOp _ (Value.int (OfNat.ofNat _) _) (Value.int (OfNat.ofNat _) _)) _ _ _)); (with_reducible refine o_irsh ?zq9kb1 ?_); (case zq9kb1 => l_bnd); walk_at "op line")
  k_with "binaryOp LShift int int" => (k_here; (fail_if_success (with_reducible show wpAny _ _ (binaryOp _ (Value.int (OfNat.ofNat _) _) (Value.int (OfNat.ofNat _) _)) _ _ _)); (with_reducible refine o_lsh ?zq9kb1 ?zq9kb2 ?zq9kb3 ?_); (case zq9kb1 => l_bnd); (case zq9kb2 => l_bnd); (case zq9kb3 => l_bnd); walk_at "op line")
  k_with "pure enter" => (refine' code_pure ?zq9k1 ?zq9k2 ?zq9k3 ?zq9k5 ?zq9kA ?zq9kF ?zq9kK ?zq9k6 ?zq9k7 ?zq9k8 ?zq9k9 ?zq9kB ?_ ?zq9c2 ?zq9c3 ?zq9c4 ?zq9c5; (case zq9kA => exact rfl); (case zq9kF => exact rfl); (case zq9kK => assumption); (case zq9k1 => k_asm); (case zq9k2 => k_asm); (case zq9k3 => k_asm); (case zq9k5 => k_asm); (case zq9k6 => k_is); (case zq9k7 => k_is); (case zq9k8 => ktr_room); (case zq9k9 => exact BindsTo.of_eq rfl); (case zq9c5 => decide); (case zq9kB => exact locs rfl); (case zq9c2 => exact rfl); (case zq9c3 => exact rfl); (case zq9c4 => exact rfl); k_whole; intro L' h' F' N' B' X' T'; (try dsimp only); (try k_lift B'); (try k_fold))
  k_with "passes own line" => (with_reducible exact PySem.PassesOwn.leaving)
  k_with "kst facts1 line" => (first | with_reducible assumption | ((repeat (with_reducible refine IntsAre.cons _ _ ?_)); with_reducible exact IntsAre.nil) | exact IntsAre.append (by with_reducible assumption) (by with_reducible assumption) | exact IntsAre.append (by kst_facts1) (IntsAre.cons _ _ IntsAre.nil) | exact IntsAre.append (by kst_facts1) (IntsAre.cons _ _ (IntsAre.cons _ _ (IntsAre.cons _ _ IntsAre.nil))))
  k_with "sz" => ((try law_lens); (try simp only [List.size_toArray, Array.size_append, Array.size_push, Array.length_toList, List.length_append, List.length_cons, List.length_nil, List.length_reverse, List.length_map, PySem.sizeLine_eq] at *); omega)
  k_with "call builtin:list.reverse" => (k_here; (with_reducible show wpAny _ _ (call (Value.builtin _) [Value.ref _]) _ _ _); k_dflt (refine' kl_reverse ?zq9F ?zq9N ?zq9e ?zq9U ?zq9z ?_; (case zq9F => k_asm); (case zq9N => k_asm); (case zq9e => exact rfl); (case zq9U => k_upd); (case zq9z => walk_at "sz")); intro h' F' N'; (try k_sweep))
  k_with "all and" => ((repeat' (with_reducible apply And.intro)) <;> first | trivial | assumption | omega)
  k_with "exec While Compare cons nil" => (k_dflt (k_extra "while"))
  k_with "exec While BoolOp cons nil" => (k_dflt (k_extra "while"))
  k_with "exec While" => (k_dflt (k_extra "while"))
  k_with "use side" => ((case k1 => k_asm); (case k2 => k_asm); (case k3 => k_asm); (case k4 => k_asm); (case k5 => k_asm); (case kK => first | exact rfl | assumption); (case kd => ktr_room); (case ku => ktr_units))
  k_with "use new" => ((try simp only [AllNe, and_true] at l1); (try k_sweep); (try dsimp only); (try k_fold))
  k_with "is list" => first | exact trivial | assumption | exact News.isList (by k_asm) (by k_mem) | exact stays_list (Fr.keep (by k_asm)) (by assumption)
  k_with "call ref" => (k_dflt (k_extra "call"))
  k_with "exec Raise some none" => (k_dflt (exfalso; k_extra "raise"))
  k_with "for enter" => (ktd_said "for"; k_here; (rename Fr _ _ _ _ => lF'); (with_unfolding_all refine' For_invVF lF' ?zq9k1 ?zq9k2 ?_; (case zq9k1 => exact rfl); (case zq9k2 => exact rfl); k_whole))
  k_with "exec For Name Subscript cons nil" => (k_dflt (walk_at "for enter"))
  k_with "exec For Name Name cons nil" => (k_dflt (walk_at "for enter"))
  k_with "exec For Name Call cons nil" => (k_dflt (walk_at "for enter"))
  k_with "pyIter ref" => (k_dflt (k_extra "for"))
  k_with "exec Raise some none" => (k_dflt (k_extra "raise die"))
  k_with "turn enter" => (refine' code_turn ?zq9k1 ?zq9k2 ?zq9k3 ?zq9k5 ?zq9kD ?zq9kA ?zq9kF ?zq9kK ?zq9k6 ?zq9k7 ?zq9k8 ?zq9k9 ?zq9kB ?_ ?zq9c2 ?zq9c3 ?zq9c4 ?zq9c5; (case zq9kA => exact rfl); (case zq9kF => exact rfl); (case zq9kK => assumption); (case zq9k1 => k_asm); (case zq9k2 => k_asm); (case zq9k3 => k_asm); (case zq9k5 => k_asm); (case zq9kD => k_asm); (case zq9k6 => k_is); (case zq9k7 => k_is); (case zq9k8 => ktr_room); (case zq9k9 => exact BindsTo.of_eq rfl); (case zq9c5 => decide); (case zq9kB => exact locs rfl); (case zq9c2 => exact rfl); (case zq9c3 => exact rfl); (case zq9c4 => exact rfl); k_whole; intro L' h' F' N' B' X' T' D'; (try dsimp only); (try k_lift B'); (try k_fold))
  k_with "LeaveT" => (k_dflt (refine' leaveT_ ?zq9T9 ?zq9F9 ?_; (case zq9F9 => k_asm); (case zq9T9 => first | exact KtsTurn.refl | assumption)); intro tT; (try dsimp only))
  k_with "new pair" => (intro l' t' u' h' tk' F' N' l1; (try simp only [AllNe, and_true] at l1); (try k_sweep); (try dsimp only); (try k_fold))
  k_with "new ints" => (intro l' vs' n' h' tk' F' N' l1 hI'; (try simp only [AllNe, and_true] at l1); (try k_sweep); (try dsimp only); (try k_fold))
  k_with "grow turn" => (intro gVs gNs gK gPre gT gU gH gTk gI gIt gLt gCls l1 gIs gP gF gN; (try k_lt l1); have kM := kstMark; (try k_fold))
  k_with "grow done" => (intro gVs gNs gK gU gH gTk gI gP gF gN; have kM := kstMark; (try k_fold))
  k_with "eval Call" => (ktd_said "call"; k_here; k_dflt (refine Call_ ?_))
  k_with "new int" => (intro u' h' tk' F' N'; (try k_sweep); (try dsimp only); (try k_fold))
  k_with "eval BinOp" => (k_dflt (k_extra "fact"))
  k_with "new bool" => (intro h' tk' F' N'; (try k_sweep); (try dsimp only); (try k_fold))
  k_with "call builtin:list.extend" => (k_here; (with_reducible show wpAny _ _ (call (Value.builtin _) [Value.ref _, Value.ref _]) _ _ _); k_dflt (refine' my_extend ?zq9F ?zq9N ?zq9b ?zq9U ?zq9ne ?zq9z ?_; (case zq9F => k_asm); (case zq9N => k_asm); (case zq9b => k_mem); (case zq9U => k_upd); (case zq9ne => walk_at "sz"); (case zq9z => walk_at "sz")); intro h' F' N'; (try k_sweep))
  k_with "op line" => (intro opX opE; (try simp only [bitAnd_m1, bitAnd_m4, bitAnd_m6, bitAnd_m7, bitAnd_m8, Int.reduceToNat, Int.reducePow] at opE); (try k_dflt (k_extra "op")))
  k_with "call builtin:min" => ((with_reducible show wpAny _ _ (call (Value.builtin _) [Value.int _ _, Value.int _ _]) _ _ _); ktd_said "min"; (with_reducible rename News _ _ _ _ => N'); (with_unfolding_all apply min_two_N); (case hh => with_unfolding_all rfl); (case N => exact N'); (case F => assumption); clear N'; intro _ _ _ _; k_dflt (k_extra "min"))
  k_with "kmk size line" => ((refine kmk_sz (by l_ints) ?_; rw [PySem.sizeLine_eq]; omega))
  k_with "InvEndN" => (k_dflt kst_close)
  k_with "ite" => (k_here; k_closed; k_dflt (first | refine ite_pos (by decide) ?_ | refine ite_neg (by decide) ?_))
  k_with "sz" => ((simp only [List.size_toArray, Array.size_append, Array.size_push, Array.length_toList, List.length_append, List.length_cons, List.length_nil, List.length_reverse, List.length_map, PySem.sizeLine_eq]); first | omega | (law_lens; omega))
  k_with "kmk nums line" => (first | ((with_reducible refine' kmk_run ?zq9ka ?zq9kb ?zq9kc); (case zq9ka => l_ints); (case zq9kb => kmk_sign); (case zq9kc => kmk_sign)) | ((with_reducible refine' kmk_from ?zq9ka ?zq9kb); (case zq9ka => l_ints); (case zq9kb => kmk_sign)) | ((with_reducible refine' kmk_upto ?zq9ka ?zq9kb); (case zq9ka => l_ints); (case zq9kb => kmk_sign)) | ((with_reducible refine' kmk_upto_neg ?zq9ka ?zq9kb); (case zq9ka => l_ints); (case zq9kb => kmk_sign)))
  k_with "k ne line" => ((refine neN ?_; (try dsimp only); with_reducible first | assumption | exact Ne.symm (by assumption) | exact Nat.ne_of_lt (by assumption) | exact Nat.ne_of_gt (by assumption)))
  k_with "execs cons" => ((with_reducible refine Mine.execs_seq ?_); intro qk)
  k_with "binaryOp Pow int int" => first | (with_reducible refine o_pow (b := 21) (by decide) (by decide) (by decide) 2097152 (by decide) ?_) | (with_reducible refine o_pow (b := 26) (by decide) (by decide) (by decide) 67108864 (by decide) ?_) | (with_reducible refine o_pow (b := 31) (by decide) (by decide) (by decide) 2147483648 (by decide) ?_)
  walk_at "pure enter"
  (repeat' (first | ((with_reducible first | refine Mine.seq_nil ?_ | refine Mine.seq_next ?_ | refine Mine.seq_ret ?_); (try dsimp only)) | (k_unfold; (try dsimp only)) | (k_end; kc_close) | walk1 | (dsimp only; walk1) | (leave1; walk_say "STEP leave1"; try dsimp only) | fail "no step"))
  refine pcall_ret hret (by assumption) ?_
  refine newOne_of (by assumption) (List.Mem.head _) ?_
  exact .mk ..
end Mine
-- M2
open PySem PySem.W PyProof.Rows PySem.Calls PySem.Spec
namespace Mine
theorem clamp (y : Int) : 0 ≤ (if (if y < 2147483648 - 1 then y else 2147483648 - 1) > 0 then if y < 2147483648 - 1 then y else 2147483648 - 1 else 0) ∧ (if (if y < 2147483648 - 1 then y else 2147483648 - 1) > 0 then if y < 2147483648 - 1 then y else 2147483648 - 1 else 0) < 2 ^ 31 := by
  constructor <;> (repeat' split) <;> omega
theorem ne_of_hide {h : Heap} {l a : Addr} {vs : Array Value} (H : (hideAll h [a]).IsList l vs) : @Ne Nat l a := by
  intro e
  obtain ⟨o, ho, _⟩ := H
  rw [show (l : Addr) = a from e, hideAll_none [a] (.head _)] at ho
  cases ho
set_option maxHeartbeats 8000000 in
theorem number_c (w : World) (a l : Addr) (vs : List Value) (ns : List Int) (k : Int) (t2 : Tok) (n : Nat) (hI : IntsAre vs ns) (hlen : ns.length ≤ 1000) (hk : 0 ≤ k) (hk2 : k ≤ 900) :
    MCall w 10 187 [.ref a] a (listOf #[.ref l, .int k t2] n) (fun h => h.IsList l vs.toArray) (fun _ _ r o' => (∃ x u, r = .int x u ∧ 0 ≤ x ∧ x < 2 ^ 31) ∧ millO l (k + 2) o') := by
  unfold MCall prg
  k_fill
  intro mean mg mb dp un gd cn cs aC ccd cl outer A₀ base h₀ L m s Q E hB hF hX hT hK hDp hUn hN hpre hret
  refine wpAny_call ?_
  k_with_none
  k_with "op line" => (intro opX opE; (try simp only [bitAnd_m1, bitAnd_m4, bitAnd_m6, bitAnd_m7, bitAnd_m8, Int.reduceToNat, Int.reducePow] at opE))
  k_with "binaryOp BitAnd int int" => (k_here; (fail_if_success (with_reducible show wpAny _ _ (binaryOp _ (Value.int (OfNat.ofNat _) _) (Value.int (OfNat.ofNat _) _)) _ _ _)); (with_reducible refine o_and ?_); walk_at "op line")
  k_with "inplaceOp BitAnd int int" => (k_here; (fail_if_success (with_reducible show wpAny _ _ (inplaceOp _ (Value.int (OfNat.ofNat _) _) (Value.int (OfNat.ofNat _) _)) _ _ _)); (with_reducible refine o_iand ?_); walk_at "op line")
  k_with "binaryOp BitOr int int" => (k_here; (fail_if_success (with_reducible show wpAny _ _ (binaryOp _ (Value.int (OfNat.ofNat _) _) (Value.int (OfNat.ofNat _) _)) _ _ _)); (with_reducible refine o_or ?_); walk_at "op line")
  k_with "inplaceOp BitOr int int" => (k_here; (fail_if_success (with_reducible show wpAny _ _ (inplaceOp _ (Value.int (OfNat.ofNat _) _) (Value.int (OfNat.ofNat _) _)) _ _ _)); (with_reducible refine o_ior ?_); walk_at "op line")
  k_with "binaryOp RShift int int" => (k_here; (fail_if_success (with_reducible show wpAny _ _ (binaryOp _ (Value.int (OfNat.ofNat _) _) (Value.int (OfNat.ofNat _) _)) _ _ _)); (with_reducible refine o_rsh ?zq9kb1 ?_); (case zq9kb1 => l_bnd); walk_at "op line")
  k_with "inplaceOp RShift int int" => (k_here; (fail_if_success (with_reducible show wpAny _ _ (inplaceOp _ (Value.int (OfNat.ofNat _) _) (Value.int (OfNat.ofNat _) _)) _ _ _)); (with_reducible refine o_irsh ?zq9kb1 ?_); (case zq9kb1 => l_bnd); walk_at "op line")
  k_with "binaryOp LShift int int" => (k_here; (fail_if_success (with_reducible show wpAny _ _ (binaryOp _ (Value.int (OfNat.ofNat _) _) (Value.int (OfNat.ofNat _) _)) _ _ _)); (with_reducible refine o_lsh ?zq9kb1 ?zq9kb2 ?zq9kb3 ?_); (case zq9kb1 => l_bnd); (case zq9kb2 => l_bnd); (case zq9kb3 => l_bnd); walk_at "op line")
  k_with "pure enter" => (refine' code_pure ?zq9k1 ?zq9k2 ?zq9k3 ?zq9k5 ?zq9kA ?zq9kF ?zq9kK ?zq9k6 ?zq9k7 ?zq9k8 ?zq9k9 ?zq9kB ?_ ?zq9c2 ?zq9c3 ?zq9c4 ?zq9c5; (case zq9kA => exact rfl); (case zq9kF => exact rfl); (case zq9kK => assumption); (case zq9k1 => k_asm); (case zq9k2 => k_asm); (case zq9k3 => k_asm); (case zq9k5 => k_asm); (case zq9k6 => k_is); (case zq9k7 => k_is); (case zq9k8 => ktr_room); (case zq9k9 => exact BindsTo.of_eq rfl); (case zq9c5 => decide); (case zq9kB => exact locs rfl); (case zq9c2 => exact rfl); (case zq9c3 => exact rfl); (case zq9c4 => exact rfl); k_whole; intro L' h' F' N' B' X' T'; (try dsimp only); (try k_lift B'); (try k_fold))
  k_with "passes own line" => (with_reducible exact PySem.PassesOwn.leaving)
  k_with "kst facts1 line" => (first | with_reducible assumption | ((repeat (with_reducible refine IntsAre.cons _ _ ?_)); with_reducible exact IntsAre.nil) | exact IntsAre.append (by with_reducible assumption) (by with_reducible assumption) | exact IntsAre.append (by kst_facts1) (IntsAre.cons _ _ IntsAre.nil) | exact IntsAre.append (by kst_facts1) (IntsAre.cons _ _ (IntsAre.cons _ _ (IntsAre.cons _ _ IntsAre.nil))))
  k_with "sz" => ((try law_lens); (try simp only [List.size_toArray, Array.size_append, Array.size_push, Array.length_toList, List.length_append, List.length_cons, List.length_nil, List.length_reverse, List.length_map, PySem.sizeLine_eq] at *); omega)
  k_with "call builtin:list.reverse" => (k_here; (with_reducible show wpAny _ _ (call (Value.builtin _) [Value.ref _]) _ _ _); k_dflt (refine' kl_reverse ?zq9F ?zq9N ?zq9e ?zq9U ?zq9z ?_; (case zq9F => k_asm); (case zq9N => k_asm); (case zq9e => exact rfl); (case zq9U => k_upd); (case zq9z => walk_at "sz")); intro h' F' N'; (try k_sweep))
  k_with "all and" => ((repeat' (with_reducible apply And.intro)) <;> first | trivial | assumption | omega)
  k_with "exec While Compare cons nil" => (k_dflt (k_extra "while"))
  k_with "exec While BoolOp cons nil" => (k_dflt (k_extra "while"))
  k_with "exec While" => (k_dflt (k_extra "while"))
  k_with "use side" => ((case k1 => k_asm); (case k2 => k_asm); (case k3 => k_asm); (case k4 => k_asm); (case k5 => k_asm); (case kK => first | exact rfl | assumption); (case kd => ktr_room); (case ku => ktr_units))
  k_with "use new" => ((try simp only [AllNe, and_true] at l1); (try k_sweep); (try dsimp only); (try k_fold))
  k_with "is list" => first | exact trivial | assumption | exact News.isList (by k_asm) (by k_mem) | exact stays_list (Fr.keep (by k_asm)) (by assumption)
  k_with "call ref" => (k_dflt (k_extra "call"))
  k_with "exec Raise some none" => (k_dflt (exfalso; k_extra "raise"))
  k_with "for enter" => (ktd_said "for"; k_here; (rename Fr _ _ _ _ => lF'); (with_unfolding_all refine' For_invVF lF' ?zq9k1 ?zq9k2 ?_; (case zq9k1 => exact rfl); (case zq9k2 => exact rfl); k_whole))
  k_with "exec For Name Subscript cons nil" => (k_dflt (walk_at "for enter"))
  k_with "exec For Name Name cons nil" => (k_dflt (walk_at "for enter"))
  k_with "exec For Name Call cons nil" => (k_dflt (walk_at "for enter"))
  k_with "pyIter ref" => (k_dflt (k_extra "for"))
  k_with "exec Raise some none" => (k_dflt (k_extra "raise die"))
  k_with "turn enter" => (refine' code_turn ?zq9k1 ?zq9k2 ?zq9k3 ?zq9k5 ?zq9kD ?zq9kA ?zq9kF ?zq9kK ?zq9k6 ?zq9k7 ?zq9k8 ?zq9k9 ?zq9kB ?_ ?zq9c2 ?zq9c3 ?zq9c4 ?zq9c5; (case zq9kA => exact rfl); (case zq9kF => exact rfl); (case zq9kK => assumption); (case zq9k1 => k_asm); (case zq9k2 => k_asm); (case zq9k3 => k_asm); (case zq9k5 => k_asm); (case zq9kD => k_asm); (case zq9k6 => k_is); (case zq9k7 => k_is); (case zq9k8 => ktr_room); (case zq9k9 => exact BindsTo.of_eq rfl); (case zq9c5 => decide); (case zq9kB => exact locs rfl); (case zq9c2 => exact rfl); (case zq9c3 => exact rfl); (case zq9c4 => exact rfl); k_whole; intro L' h' F' N' B' X' T' D'; (try dsimp only); (try k_lift B'); (try k_fold))
  k_with "LeaveT" => (k_dflt (refine' leaveT_ ?zq9T9 ?zq9F9 ?_; (case zq9F9 => k_asm); (case zq9T9 => first | exact KtsTurn.refl | assumption)); intro tT; (try dsimp only))
  k_with "new pair" => (intro l' t' u' h' tk' F' N' l1; (try simp only [AllNe, and_true] at l1); (try k_sweep); (try dsimp only); (try k_fold))
  k_with "new ints" => (intro l' vs' n' h' tk' F' N' l1 hI'; (try simp only [AllNe, and_true] at l1); (try k_sweep); (try dsimp only); (try k_fold))
  k_with "grow turn" => (intro gVs gNs gK gPre gT gU gH gTk gI gIt gLt gCls l1 gIs gP gF gN; (try k_lt l1); have kM := kstMark; (try k_fold))
  k_with "grow done" => (intro gVs gNs gK gU gH gTk gI gP gF gN; have kM := kstMark; (try k_fold))
  k_with "eval Call" => (ktd_said "call"; k_here; k_dflt (refine Call_ ?_))
  k_with "new int" => (intro u' h' tk' F' N'; (try k_sweep); (try dsimp only); (try k_fold))
  k_with "eval BinOp" => (k_dflt (k_extra "fact"))
  k_with "new bool" => (intro h' tk' F' N'; (try k_sweep); (try dsimp only); (try k_fold))
  k_with "call builtin:list.extend" => (k_here; (with_reducible show wpAny _ _ (call (Value.builtin _) [Value.ref _, Value.ref _]) _ _ _); k_dflt (refine' my_extend ?zq9F ?zq9N ?zq9b ?zq9U ?zq9ne ?zq9z ?_; (case zq9F => k_asm); (case zq9N => k_asm); (case zq9b => k_mem); (case zq9U => k_upd); (case zq9ne => walk_at "sz"); (case zq9z => walk_at "sz")); intro h' F' N'; (try k_sweep))
  k_with "op line" => (intro opX opE; (try simp only [bitAnd_m1, bitAnd_m4, bitAnd_m6, bitAnd_m7, bitAnd_m8, Int.reduceToNat, Int.reducePow] at opE); (try k_dflt (k_extra "op")))
  k_with "call builtin:min" => ((with_reducible show wpAny _ _ (call (Value.builtin _) [Value.int _ _, Value.int _ _]) _ _ _); ktd_said "min"; (with_reducible rename News _ _ _ _ => N'); (with_unfolding_all apply min_two_N); (case hh => with_unfolding_all rfl); (case N => exact N'); (case F => assumption); clear N'; intro _ _ _ _; k_dflt (k_extra "min"))
  k_with "kmk size line" => ((refine kmk_sz (by l_ints) ?_; rw [PySem.sizeLine_eq]; omega))
  k_with "InvEndN" => (k_dflt kst_close)
  k_with "ite" => (k_here; k_closed; k_dflt (first | refine ite_pos (by decide) ?_ | refine ite_neg (by decide) ?_))
  k_with "sz" => ((simp only [List.size_toArray, Array.size_append, Array.size_push, Array.length_toList, List.length_append, List.length_cons, List.length_nil, List.length_reverse, List.length_map, PySem.sizeLine_eq]); first | omega | (law_lens; omega))
  k_with "kmk nums line" => (first | ((with_reducible refine' kmk_run ?zq9ka ?zq9kb ?zq9kc); (case zq9ka => l_ints); (case zq9kb => kmk_sign); (case zq9kc => kmk_sign)) | ((with_reducible refine' kmk_from ?zq9ka ?zq9kb); (case zq9ka => l_ints); (case zq9kb => kmk_sign)) | ((with_reducible refine' kmk_upto ?zq9ka ?zq9kb); (case zq9ka => l_ints); (case zq9kb => kmk_sign)) | ((with_reducible refine' kmk_upto_neg ?zq9ka ?zq9kb); (case zq9ka => l_ints); (case zq9kb => kmk_sign)))
  k_with "k ne line" => ((refine neN ?_; (try dsimp only); with_reducible first | assumption | exact Ne.symm (by assumption) | exact Nat.ne_of_lt (by assumption) | exact Nat.ne_of_gt (by assumption)))
  k_with "execs cons" => ((with_reducible refine Mine.execs_seq ?_); intro qk)
  k_with "mut enter" => (refine' code_mut ?zq9k1 ?zq9k2 ?zq9k3 ?zq9k5 ?zq9kN ?zq9kA ?zq9kF ?zq9kK ?zq9k6 ?zq9k7 ?zq9k8 ?zq9k9 ?zq9kB ?_ ?zq9c2 ?zq9c3 ?zq9c4 ?zq9c5; (case zq9kA => exact rfl); (case zq9kF => exact rfl); (case zq9kK => assumption); (case zq9k1 => k_asm); (case zq9k2 => k_asm); (case zq9k3 => k_asm); (case zq9k5 => k_asm); (case zq9kN => assumption); (case zq9k6 => k_is); (case zq9k7 => k_is); (case zq9k8 => ktr_room); (case zq9k9 => exact BindsTo.of_eq rfl); (case zq9c5 => decide); (case zq9kB => exact locs rfl); (case zq9c2 => exact rfl); (case zq9c3 => exact rfl); (case zq9c4 => exact rfl); k_whole; intro g' L' h' hG9 F' N' B' X' T' l1; (try k_lt l1); (try dsimp only); (try k_lift B'); (try k_fold))
  k_with "binaryOp Pow int int" => first | (with_reducible refine o_pow (b := 21) (by decide) (by decide) (by decide) 2097152 (by decide) ?_) | (with_reducible refine o_pow (b := 26) (by decide) (by decide) (by decide) 67108864 (by decide) ?_) | (with_reducible refine o_pow (b := 31) (by decide) (by decide) (by decide) 2147483648 (by decide) ?_)
  k_with "new mill" => (intro x' u' h' tk' t9' n9' h0x' h1x' F' N9; (have N' := N9 _ (by k_upd)); clear N9; (try k_sweep); (try dsimp only); (try k_fold))
  k_with "new bounds" => (intro l' h' tk' _ _ _ _ _ _ _ _ F' N' l1; (try simp only [AllNe, and_true] at l1); (try k_sweep); (try dsimp only); (try k_fold))
  k_dflt walk_at "mut enter"
  (rename _ = hideAll _ _ => hG9)
  have hG8 : _ = hideAll s.heap [a] := hG9
  have hLa := ne_of_hide hpre
  rw [← hG8] at hpre
  (k_with "call" => (first
    | ((refine' use_bounds (bounds_c w) ?k1 ?k2 ?k3 ?k4 ?k5 ?kK ?kd ?ku ?kp ?_); (case kp => trivial); walk_at "use side"; walk_at "new bounds")
    | ((refine' use_mill (crank_c w a l _ _ _ _ _ _ _ hI hlen ?c1 ?c2 ?c3 ?c4) ?k1 ?k2 ?k3 ?k4 ?km ?k5 ?kK ?kd ?ku ?kp ?_); walk_at "use side"; (case km => k_mem); (case c1 => omega); (case c2 => omega); (case c3 => omega); (case c4 => omega); (case kp => exact isList_hide (stays_list (Fr.keep (by k_asm)) (by assumption)) hLa); walk_at "new mill")))
  (repeat' (first | ((with_reducible first | refine Mine.seq_nil ?_ | refine Mine.seq_next ?_ | refine Mine.seq_ret ?_); (try dsimp only)) | (k_unfold; (try dsimp only)) | (k_end; kc_close) | walk1 | (dsimp only; walk1) | (leave1; walk_say "STEP leave1"; try dsimp only) | fail "no step"))
  all_goals (refine hret _ _ _ _ (stays_of hG8 (by assumption)) (news_get (by assumption) (by k_mem)) ⟨⟨_, _, rfl, ?_, ?_⟩, _, _, by rw [show k + 2 = k + 1 + 1 by omega]⟩)
  · exact (clamp _).1
  · exact (clamp _).2
  · exact (clamp _).1
  · exact (clamp _).2
end Mine
-- Cm
section SecCm
open PySem PySem.W PyProof.Rows PySem.Calls PySem.Spec
open PySem.AutoSeq1 (wpAny_loadPart')
open PySem.MeetsSeq PySem.MeetsSeq2 PySem.MeetsSeq3 PySem.SeqRoads2 PySem.SeqAt
namespace Mine
/-- lists of ints in order -/
noncomputable def ltL : List Int → List Int → Bool
  | _, [] => false
  | [], _ :: _ => true
  | a :: r, b :: t => if a = b then ltL r t else decide (a < b)
theorem intsAre_nth {vs : List Value} {ns : List Int} (h : IntsAre vs ns) : ∀ i : Nat, (∃ (n : Int) (t : Tok), vs[i]? = some (Value.int n t) ∧ ns[i]? = some n) ∨ (vs[i]? = none ∧ ns[i]? = none) := by
  induction h with
  | nil => exact fun i => .inr ⟨rfl, rfl⟩
  | cons n t _ ih =>
    intro i
    cases i with
    | zero => exact .inl ⟨n, t, rfl, rfl⟩
    | succ i => exact ih i
set_option maxHeartbeats 2000000 in
theorem lt_loop (l b : Addr) (xs ys : List Value) (ns ms : List Int) (n n2 : Nat) (dd dd2 : Option Addr) (sl sl2 : Array (Option Value)) (hx : IntsAre xs ns) (hy : IntsAre ys ms) (k : Nat) :
    ∀ i : Nat, xs.length - i = k → Meets (Builtin.«list.__eq__.loop» ⟨[.ref l, .ref b, rawInt i, rawInt 0], []⟩)
      (fun A R s => s.heap.get? l = some { cls := .type "list", dict := dd, data := .seq xs.toArray n, slots := sl } ∧ s.heap.get? b = some { cls := .type "list", dict := dd2, data := .seq ys.toArray n2, slots := sl2 } ∧
        i ≤ xs.length ∧ i ≤ ys.length ∧
        R (.ok (.ret (.bool (ltL (ns.drop i) (ms.drop i))))) s) := by
  have lx : ns.length = xs.length := hx.length.symm
  have ly : ms.length = ys.length := hy.length.symm
  induction k with
  | zero =>
    intro i hk prog w A R s h
    obtain ⟨hp, g, d, tk, os⟩ := s; obtain ⟨hl, hb, hi1, hi2, h⟩ := h
    wp_walk using wpAny_loadPart' hl, wpAny_loadPart' hb
    have hi1 : xs.toArray[((i : Nat) : Int).toNat]? = none := by simp; omega
    rw [hi1]
    wp_walk using wpAny_loadPart' hl, wpAny_loadPart' hb
    show R (.ok (.ret (.bool (decide (xs.toArray.size < ys.toArray.size))))) _
    have hd : ns.drop i = [] := by simp; omega
    rw [hd] at h
    have e : decide (xs.toArray.size < ys.toArray.size) = ltL [] (ms.drop i) := by
      simp only [List.size_toArray]
      rcases Nat.lt_or_ge i ms.length with z | z
      · rw [List.drop_eq_getElem_cons z, ltL]; simp; omega
      · rw [List.drop_of_length_le z, ltL]; simp; omega
    rw [e]; exact h
  | succ k ih =>
    intro i hk prog w A R s h
    obtain ⟨hp, g, d, tk, os⟩ := s; obtain ⟨hl, hb, hi1, hi2, h⟩ := h
    wp_walk using wpAny_loadPart' hl, wpAny_loadPart' hb
    have hc : ((i : Int) + 1) = ((i + 1 : Nat) : Int) := by push_cast; rfl
    rcases intsAre_nth hx i with ⟨x, t, ex, ex'⟩ | ⟨ex, _⟩
    case inr => simp at ex; omega
    have hi1 : xs.toArray[((i : Nat) : Int).toNat]? = some (.int x t) := by simpa using ex
    rw [hi1]
    have hltx : i < ns.length := by omega
    have gx : ns[i] = x := by rw [List.getElem?_eq_getElem hltx] at ex'; exact Option.some.inj ex'
    rw [List.drop_eq_getElem_cons hltx, gx] at h
    rcases intsAre_nth hy i with ⟨y, u, ey, ey'⟩ | ⟨ey, ey'⟩
    · have hi2 : ys.toArray[((i : Nat) : Int).toNat]? = some (.int y u) := by simpa using ey
      have hlty : i < ms.length := by
        rcases Nat.lt_or_ge i ms.length with z | z
        · exact z
        · rw [List.getElem?_eq_none z] at ey'; cases ey'
      have gy : ms[i] = y := by rw [List.getElem?_eq_getElem hlty] at ey'; exact Option.some.inj ey'
      rw [List.drop_eq_getElem_cons hlty, gy, ltL] at h
      rw [hi2]
      dsimp only
      refine wpAny_bind ((EqGives.int x y t u) prog w _ _ _ _ ?_)
      by_cases hxy : x = y
      · rw [if_pos hxy] at h
        rw [show (x == y) = true by simp [hxy]]
        wp_walk
        rw [hc]
        exact ⟨plainId_quiet plain_eq_loop _, codeAny_builtin entry_eq_loop (by
          rw [Around.under_plainId plain_eq_loop _]
          exact ih (i + 1) (by omega) prog w A R _ ⟨hl, hb, by omega, by omega, h⟩)⟩
      · rw [if_neg hxy] at h
        rw [show (x == y) = false by simp [hxy]]
        wp_walk using wpAny_loadPart' hl, wpAny_loadPart' hb
        rw [hi1, hi2]
        dsimp only
        refine wpAny_bind (show wpAny _ _ (richCompare .Lt (.int x t) (.int y u)) _ _ _ from wpAny_lt_int ?_)
        wp_walk
        exact h
    · have hge : ys.length ≤ i := by simpa using ey
      have hi2 : ys.toArray[((i : Nat) : Int).toNat]? = none := by simpa using ey
      rw [hi2]
      wp_walk using wpAny_loadPart' hl, wpAny_loadPart' hb
      show R (.ok (.ret (.bool (decide (xs.toArray.size < ys.toArray.size))))) _
      have hd : ms.drop i = [] := by simp; omega
      rw [hd, ltL] at h
      rw [show decide (xs.toArray.size < ys.toArray.size) = false by simp; omega]
      exact h
theorem list_lt_at (l b : Addr) (xs ys : List Value) (ns ms : List Int) (n n2 : Nat) (dd dd2 : Option Addr) (sl sl2 : Array (Option Value)) (hx : IntsAre xs ns) (hy : IntsAre ys ms) :
    Meets (Builtin.«list.__lt__» ⟨[.ref l, .ref b], []⟩)
      (fun A R s => s.heap.get? l = some { cls := .type "list", dict := dd, data := .seq xs.toArray n, slots := sl } ∧ s.heap.get? b = some { cls := .type "list", dict := dd2, data := .seq ys.toArray n2, slots := sl2 } ∧
        R (.ok (.ret (.bool (ltL ns ms)))) s) := by
  intro prog w A R s h
  obtain ⟨hp, g, d, tk, os⟩ := s; obtain ⟨hl, hb, h⟩ := h
  have f3 := AutoSeq1.sub_list_list
  wp_walk using wpAny_loadPart' hl, wpAny_loadPart' hb
  exact ⟨plainId_quiet plain_eq_loop _, codeAny_builtin entry_eq_loop (by
    rw [Around.under_plainId plain_eq_loop _]
    exact lt_loop l b xs ys ns ms n n2 dd dd2 sl sl2 hx hy _ 0 rfl prog w A R _ ⟨hl, hb, by omega, by omega, by simpa using h⟩)⟩
section
variable {prog : Program} {w : World} {A : Around} {E : Value → Shared → Prop} {s : Shared}
theorem lt_list_ints {l b : Addr} {xs ys : List Value} {ns ms : List Int} {Q : Value → Shared → Prop} (hl : s.heap.IsList l xs.toArray) (hx : IntsAre xs ns) (hb : s.heap.IsList b ys.toArray) (hy : IntsAre ys ms) (hu : A.units < cLine)
    (h : Q (.bool (ltL ns ms)) s) : wpAny (model prog w) A (richCompare .Lt (.ref l) (.ref b)) Q E s := by
  obtain ⟨⟨cls, dd, data, sl⟩, ho, hc, n, hd⟩ := id hl
  obtain ⟨⟨cls2, dd2, data2, sl2⟩, ho2, hc2, n2, hd2⟩ := id hb
  simp only at hc hd hc2 hd2
  subst hc hd hc2 hd2
  exact richCompare_meets_room (op := .Lt) ⟨_, ho, rfl⟩ ⟨_, ho2, rfl⟩ F.slot_list_lt F.entry_list_lt (F.args_list_lt_2 _ _) (list_lt_at l b xs ys ns ms n n2 dd dd2 sl sl2 hx hy)
    ⟨ho, ho2, show Value.bool (ltL ns ms) ≠ Value.notImplemented ∧ Q (.bool (ltL ns ms)) s from ⟨(fun x => nomatch x), h⟩⟩ hu
end
end Mine

end SecCm
-- Cn
section SecCn
open PySem PySem.W PyProof.Rows PySem.Calls PySem.Spec
open PySem.AutoSeq1 (wpAny_loadPart')
open PySem.MeetsSeq PySem.MeetsSeq2 PySem.MeetsSeq3 PySem.SeqRoads2 PySem.SeqAt
namespace Mine
theorem intsAre_one {vs : List Value} {ns ms : List Int} (h : IntsAre vs ns) (k : IntsAre vs ms) : ns = ms := by
  have one : ∀ {vs : List Value} {ns : List Int}, IntsAre vs ns → vs.map (fun v => match v with | .int n _ => n | _ => 0) = ns := by
    intro vs ns h
    induction h with
    | nil => rfl
    | cons n t _ ih => exact congrArg (n :: ·) ih
  exact (one h).symm.trans (one k)
theorem ltL_irrefl : ∀ ns : List Int, ltL ns ns = false
  | [] => rfl
  | a :: r => by rw [ltL, if_pos rfl]; exact ltL_irrefl r
theorem eqAt_ints {A : Around} {s : Shared} {l b : Addr} {xs ys : List Value} {ns ms : List Int} (hl : s.heap.IsList l xs.toArray) (hx : IntsAre xs ns) (hb : s.heap.IsList b ys.toArray) (hy : IntsAre ys ms) (hu : A.units + 64 < cLine) :
    EqAt A s (.ref l) (.ref b) (decide (ns = ms)) := by
  by_cases e : l = b
  · subst e
    obtain ⟨o, ho, hc, n, hd⟩ := id hl
    obtain ⟨o2, ho2, hc2, n2, hd2⟩ := id hb
    rw [ho] at ho2
    cases ho2
    rw [hd] at hd2
    have e1 : xs.toArray = ys.toArray := by injection hd2
    have e2 : xs = ys := by simpa using e1
    subst e2
    rw [intsAre_one hx hy]
    simpa using EqAt.same (.ref l)
  · exact EqAt.of_refs e fun prog w E Q h => ke_eq_ints hl hb hx hy hu h
noncomputable def ltP (a b : Int) (ns ms : List Int) : Bool := if a = b then ltL ns ms else decide (a < b)
set_option maxHeartbeats 2000000 in
theorem tuple_lt_at (p q l b : Addr) (a c : Int) (t u : Tok) (xs ys : List Value) (ns ms : List Int) (n n2 : Nat) (dd dd2 : Option Addr) (sl sl2 : Array (Option Value)) (hx : IntsAre xs ns) (hy : IntsAre ys ms) :
    Meets (Builtin.«tuple.__lt__» ⟨[.ref p, .ref q], []⟩)
      (fun A R s => s.heap.get? p = some { cls := .type "tuple", dict := dd, data := .seq #[.int a t, .ref l] n, slots := sl } ∧ s.heap.get? q = some { cls := .type "tuple", dict := dd2, data := .seq #[.int c u, .ref b] n2, slots := sl2 } ∧
        s.heap.IsList l xs.toArray ∧ s.heap.IsList b ys.toArray ∧ A.units + 100 < cLine ∧ R (.ok (.ret (.bool (ltP a c ns ms)))) s) :=
  .of_wp fun prog w A R s h => by
    obtain ⟨hp, g, d, tk, os⟩ := s; obtain ⟨ht, hq, hl, hb, hu, h⟩ := h
    have f2 := AutoSeq1.sub_tuple_tuple
    wp_walk using wpAny_loadPart' ht, wpAny_loadPart' hq, wpAny_eqBool_int
    have hq2 : EqAt A.in1 ⟨hp, g, d, tk, os⟩ (.ref l) (.ref b) (decide (ns = ms)) := eqAt_ints hl hx hb hy (by show A.units + 1 + 64 < cLine; omega)
    have hqq : ∀ {E : Value → Shared → Prop} {Q : Bool → Shared → Prop}, Q (decide (ns = ms)) ⟨hp, g, d, tk, os⟩ → wpAny (model prog w) A.in1 (eqBool (.ref l) (.ref b)) Q E ⟨hp, g, d, tk, os⟩ := fun k => hq2 prog w _ _ k
    have hll : ∀ {E : Value → Shared → Prop} {Q : Value → Shared → Prop}, Q (.bool (ltL ns ms)) ⟨hp, g, d, tk, os⟩ → wpAny (model prog w) A.in1 (richCompare .Lt (.ref l) (.ref b)) Q E ⟨hp, g, d, tk, os⟩ := fun k => lt_list_ints hl hx hb hy (show A.units + 1 < cLine by omega) k
    have hii : ∀ {E : Value → Shared → Prop} {Q : Value → Shared → Prop}, Q (.bool (decide (a < c))) ⟨hp, g, d, tk, os⟩ → wpAny (model prog w) A.in1 (richCompare .Lt (.int a t) (.int c u)) Q E ⟨hp, g, d, tk, os⟩ := fun k => wpAny_lt_int k
    unfold ltP at h
    by_cases hac : a = c
    · rw [show (!a == c) = false by simp [hac]]
      rw [if_pos hac] at h
      wp_walk using hqq
      by_cases hnm : ns = ms
      · rw [show (!decide (ns = ms)) = false by simp [hnm]]
        rw [hnm, ltL_irrefl] at h
        wp_walk
        exact ⟨_, rfl, h⟩
      · rw [show (!decide (ns = ms)) = true by simp [hnm]]
        wp_walk using hll
        exact ⟨_, rfl, h⟩
    · rw [show (!a == c) = true by simp [hac]]
      rw [if_neg hac] at h
      wp_walk using hii
      exact ⟨_, rfl, h⟩
section
variable {prog : Program} {w : World} {A : Around} {E : Value → Shared → Prop} {s : Shared}
theorem lt_tuple_pair {p q l b : Addr} {a c : Int} {t u : Tok} {xs ys : List Value} {ns ms : List Int} {Q : Value → Shared → Prop} (hp : s.heap.IsTuple p #[.int a t, .ref l]) (hq : s.heap.IsTuple q #[.int c u, .ref b])
    (hl : s.heap.IsList l xs.toArray) (hx : IntsAre xs ns) (hb : s.heap.IsList b ys.toArray) (hy : IntsAre ys ms) (hu : A.units + 200 < cLine)
    (h : Q (.bool (ltP a c ns ms)) s) : wpAny (model prog w) A (richCompare .Lt (.ref p) (.ref q)) Q E s := by
  obtain ⟨⟨cls, dd, data, sl⟩, ho, hc, n, hd⟩ := id hp
  obtain ⟨⟨cls2, dd2, data2, sl2⟩, ho2, hc2, n2, hd2⟩ := id hq
  simp only at hc hd hc2 hd2
  subst hc hd hc2 hd2
  exact richCompare_meets_room (op := .Lt) ⟨_, ho, rfl⟩ ⟨_, ho2, rfl⟩ F.slot_tuple_lt F.entry_tuple_lt (F.args_tuple_lt_2 _ _) (tuple_lt_at p q l b a c t u xs ys ns ms n n2 dd dd2 sl sl2 hx hy)
    ⟨ho, ho2, hl, hb, by show A.units + 100 < cLine; omega, show Value.bool (ltP a c ns ms) ≠ Value.notImplemented ∧ Q (.bool (ltP a c ns ms)) s from ⟨(fun x => nomatch x), h⟩⟩ (by omega)
end
end Mine

end SecCn
-- Pn
open PySem PySem.W PyProof.Rows
namespace Mine
theorem ltL_append : ∀ {x y : List Int} (s t : List Int), x.length = y.length → ltL x y = true → ltL (x ++ s) (y ++ t) = true
  | [], [], _, _, _, h => by simp [ltL] at h
  | [], _ :: _, _, _, h, _ => by simp at h
  | _ :: _, [], _, _, h, _ => by simp at h
  | a :: x, b :: y, s, t, hl, h => by
    rw [ltL] at h
    rw [List.cons_append, List.cons_append, ltL]
    by_cases e : a = b
    · rw [if_pos e] at h ⊢
      exact ltL_append s t (by simpa using hl) h
    · rw [if_neg e] at h ⊢
      exact h
theorem ltL_same : ∀ (x : List Int) {u v : Int} (s t : List Int), u < v → ltL (x ++ u :: s) (x ++ v :: t) = true
  | [], u, v, s, t, h => by
    rw [List.nil_append, List.nil_append, ltL, if_neg (by lia)]
    exact decide_eq_true h
  | a :: x, u, v, s, t, h => by
    rw [List.cons_append, List.cons_append, ltL, if_pos rfl]
    exact ltL_same x s t h
theorem ltL_asymm : ∀ {x y : List Int}, ltL x y = true → ltL y x = false
  | [], [], h => by simp [ltL] at h
  | [], _ :: _, _ => by simp [ltL]
  | _ :: _, [], h => by simp [ltL] at h
  | a :: x, b :: y, h => by
    rw [ltL] at h ⊢
    by_cases e : a = b
    · rw [if_pos e] at h
      rw [if_pos e.symm]
      exact ltL_asymm h
    · rw [if_neg e] at h
      rw [if_neg (Ne.symm e)]
      have := of_decide_eq_true h
      exact decide_eq_false (by lia)
theorem ltL_refl : ∀ x : List Int, ltL x x = false
  | [] => rfl
  | a :: x => by rw [ltL, if_pos rfl]; exact ltL_refl x
-- compressed numbers
theorem berHi_ge : ∀ (k : Nat) (n : Int), n < 128 ^ k → ∀ x ∈ berHi n, 128 ≤ x ∧ x < 256
  | 0, n, h, x, hx => by rw [berHi_nonpos (by lia)] at hx; cases hx
  | k + 1, n, h, x, hx => by
    by_cases h0 : n ≤ 0
    · rw [berHi_nonpos h0] at hx; cases hx
    · rw [berHi_pos (by lia)] at hx
      rcases List.mem_append.mp hx with hx | hx
      · refine berHi_ge k (n / 128) ?_ x hx
        rw [Int.pow_succ] at h
        exact Int.ediv_lt_of_lt_mul (by decide) h
      · rw [List.mem_singleton.mp hx]; lia
theorem berHi_head : ∀ (k : Nat) (n : Int), n < 128 ^ k → 0 < n → ∃ x r, berHi n = x :: r ∧ 128 < x
  | 0, n, h, h0 => by simp at h; lia
  | k + 1, n, h, h0 => by
    rw [berHi_pos h0]
    by_cases h1 : n / 128 ≤ 0
    · rw [berHi_nonpos h1]
      exact ⟨_, [], rfl, by lia⟩
    · obtain ⟨x, r, e, hx⟩ := berHi_head k (n / 128) (by rw [Int.pow_succ] at h; exact Int.ediv_lt_of_lt_mul (by decide) h) (by lia)
      rw [e]
      exact ⟨x, r ++ [n % 128 + 128], rfl, hx⟩
theorem berHi_lt : ∀ (k : Nat) (a b : Int), b < 128 ^ k → 0 ≤ a → a < b → (berHi a).length < (berHi b).length ∨ ((berHi a).length = (berHi b).length ∧ ltL (berHi a) (berHi b) = true)
  | 0, a, b, h, h0, h1 => by simp at h; lia
  | k + 1, a, b, h, h0, h1 => by
    rw [berHi_pos (n := b) (by lia)]
    by_cases ha : a ≤ 0
    · rw [berHi_nonpos ha]; left; simp
    · rw [berHi_pos (n := a) (by lia)]
      have hb : b / 128 < 128 ^ k := by rw [Int.pow_succ] at h; exact Int.ediv_lt_of_lt_mul (by decide) h
      rcases Int.lt_or_le (a / 128) (b / 128) with z | z
      · rcases berHi_lt k (a / 128) (b / 128) hb (by lia) z with q | ⟨q1, q2⟩
        · left; simp only [List.length_append, List.length_cons, List.length_nil]; lia
        · right
          exact ⟨by simp [q1], ltL_append _ _ q1 q2⟩
      · have e : a / 128 = b / 128 := by lia
        right
        rw [e]
        exact ⟨by simp, ltL_same _ _ _ (by lia)⟩
theorem ber_lt {a b : Int} (h0 : 0 ≤ a) (h1 : a < b) (h2 : b < 2 ^ 62) : (ber a).length < (ber b).length ∨ ((ber a).length = (ber b).length ∧ ltL (ber a) (ber b) = true) := by
  unfold ber
  rcases Int.lt_or_le (a / 128) (b / 128) with z | z
  · rcases berHi_lt 9 (a / 128) (b / 128) (by lia) (by lia) z with q | ⟨q1, q2⟩
    · left; simp only [List.length_append, List.length_cons, List.length_nil]; lia
    · right
      exact ⟨by simp [q1], ltL_append _ _ q1 q2⟩
  · have e : a / 128 = b / 128 := by lia
    right
    rw [e]
    exact ⟨by simp, ltL_same _ _ _ (by lia)⟩
theorem berHi_len0 {n : Int} (h : 0 < n) : 0 < (berHi n).length := by rw [berHi_pos h]; simp
/-- (length, digits) in order -/
noncomputable def ltPb (a b : Int) (ns ms : List Int) : Bool := if a = b then ltL ns ms else decide (a < b)
theorem ber_order {a b : Int} (h0 : 0 ≤ a) (h1 : a < 2 ^ 62) (h2 : 0 ≤ b) (h3 : b < 2 ^ 62) : ltPb ((ber a).length : Int) ((ber b).length : Int) (ber a) (ber b) = decide (a < b) := by
  unfold ltPb
  rcases Int.lt_trichotomy a b with h | h | h
  · rw [decide_eq_true (p := a < b) h]
    rcases ber_lt h0 h h3 with q | ⟨q1, q2⟩
    · rw [if_neg (by lia), decide_eq_true (by lia)]
    · rw [if_pos (by lia), q2]
  · subst h
    rw [if_pos rfl, ltL_refl, decide_eq_false (by lia)]
  · rw [decide_eq_false (p := a < b) (by lia)]
    rcases ber_lt h2 h h1 with q | ⟨q1, q2⟩
    · rw [if_neg (by lia), decide_eq_false (by lia)]
    · rw [if_pos (by lia), ltL_asymm q2]
theorem ber_next {n c : Int} (h : 0 < n) (hc : 0 ≤ c) (hc2 : c < 128) : ber (128 * n + c) = berHi (n / 128) ++ [n % 128 + 128, c] := by
  unfold ber
  rw [show (128 * n + c) / 128 = n by lia, show (128 * n + c) % 128 = c by lia, berHi_pos h, List.append_assoc]
  rfl
-- codes
theorem contB_lt : ∀ (k : Nat) (a b : Int), a / 64 ^ k = b / 64 ^ k → a < b → ltL (contB k a) (contB k b) = true
  | 0, a, b, h, h1 => by simp at h; lia
  | k + 1, a, b, h, h1 => by
    rw [contB, contB]
    rcases Int.lt_or_le (a / 64) (b / 64) with z | z
    · refine ltL_append _ _ (by rw [contB_len, contB_len]) (contB_lt k (a / 64) (b / 64) ?_ z)
      rw [Int.ediv_ediv_of_nonneg (by decide), Int.ediv_ediv_of_nonneg (by decide), show (64 : Int) * 64 ^ k = 64 ^ (k + 1) by rw [Int.pow_succ]; lia]
      exact h
    · rw [show a / 64 = b / 64 by lia]
      exact ltL_same _ _ _ (by lia)
theorem kOf_mono {a b : Int} (h : a < b) : kOf a ≤ kOf b := by unfold kOf; (repeat' split) <;> lia
theorem utf_lt {a b : Int} (h0 : 0 ≤ a) (h : a < b) (h1 : b < 2 ^ 31) : ltL (utf a) (utf b) = true := by
  unfold utf
  by_cases hb : b < 128
  · rw [if_pos (by lia), if_pos hb, ltL, if_neg (by lia)]
    exact decide_eq_true h
  · rw [if_neg hb]
    have qb := kOf_q (n := b) (by lia) h1
    have kb := kOf_range b
    by_cases ha : a < 128
    · rw [if_pos ha, ltL, if_neg, decide_eq_true_eq]
      · have : 192 ≤ lead (kOf b) := by unfold lead; split <;> lia
        lia
      · have : 192 ≤ lead (kOf b) := by unfold lead; split <;> lia
        lia
    · rw [if_neg ha]
      have qa := kOf_q (n := a) (by lia) (by lia)
      have ka := kOf_range a
      have hk := kOf_mono h
      by_cases e : kOf a = kOf b
      · rw [e] at qa ⊢
        have hd : a / 64 ^ kOf b ≤ b / 64 ^ kOf b := Int.ediv_le_ediv (Int.pow_pos (by decide)) (by lia)
        by_cases e2 : a / 64 ^ kOf b = b / 64 ^ kOf b
        · rw [ltL, if_pos (by lia)]
          exact contB_lt _ _ _ e2 h
        · rw [ltL, if_neg (by lia)]
          exact decide_eq_true (by lia)
      · have key : lead (kOf a) + a / 64 ^ kOf a < lead (kOf b) + b / 64 ^ kOf b := by
          generalize a / 64 ^ kOf a = u at *
          generalize b / 64 ^ kOf b = v at *
          generalize kOf a = i at *
          generalize kOf b = j at *
          have hi : i = 1 ∨ i = 2 ∨ i = 3 ∨ i = 4 ∨ i = 5 := by lia
          have hj : j = 1 ∨ j = 2 ∨ j = 3 ∨ j = 4 ∨ j = 5 := by lia
          rcases hi with rfl | rfl | rfl | rfl | rfl <;> rcases hj with rfl | rfl | rfl | rfl | rfl <;> simp only [lead] <;> lia
        rw [ltL, if_neg (by lia)]
        exact decide_eq_true key
theorem utf_order {a b : Int} (h0 : 0 ≤ a) (h1 : a < 2 ^ 31) (h2 : 0 ≤ b) (h3 : b < 2 ^ 31) : ltL (utf a) (utf b) = decide (a < b) := by
  rcases Int.lt_trichotomy a b with h | h | h
  · rw [decide_eq_true h, utf_lt h0 h h3]
  · subst h
    rw [ltL_refl, decide_eq_false (by lia)]
  · rw [decide_eq_false (by lia), ltL_asymm (utf_lt h2 h h1)]
theorem utf_few {n : Int} (h0 : 0 ≤ n) (h1 : n < 2 ^ 31) : ((utf n).length : Int) = if ((List.filter (fun a => decide (a ≤ n)) [0, 128, 2048, 65536, 2097152, 67108864, 2147483648]).length : Int) > 1 then ((List.filter (fun a => decide (a ≤ n)) [0, 128, 2048, 65536, 2097152, 67108864, 2147483648]).length : Int) else 1 := by
  by_cases h : n < 128
  · rw [show utf n = [n] from if_pos h]
    simp only [List.filter_cons, List.filter_nil, List.length_cons, List.length_nil]
    rw [decide_eq_true h0, decide_eq_false (p := 128 ≤ n) (by lia), decide_eq_false (p := 2048 ≤ n) (by lia), decide_eq_false (p := 65536 ≤ n) (by lia), decide_eq_false (p := 2097152 ≤ n) (by lia), decide_eq_false (p := 67108864 ≤ n) (by lia), decide_eq_false (p := 2147483648 ≤ n) (by lia)]
    simp
  · rw [utf_len (by lia)]
    unfold kOf
    simp only [List.filter_cons, List.filter_nil]
    rw [decide_eq_true h0, decide_eq_true (p := 128 ≤ n) (by lia), decide_eq_false (p := 2147483648 ≤ n) (by lia)]
    by_cases g1 : n < 2048
    · rw [decide_eq_false (p := 2048 ≤ n) (by lia), decide_eq_false (p := 65536 ≤ n) (by lia), decide_eq_false (p := 2097152 ≤ n) (by lia), decide_eq_false (p := 67108864 ≤ n) (by lia)]
      simp [g1]
    · by_cases g2 : n < 65536
      · rw [decide_eq_true (p := 2048 ≤ n) (by lia), decide_eq_false (p := 65536 ≤ n) (by lia), decide_eq_false (p := 2097152 ≤ n) (by lia), decide_eq_false (p := 67108864 ≤ n) (by lia)]
        simp [g1, g2]
      · by_cases g3 : n < 2097152
        · rw [decide_eq_true (p := 2048 ≤ n) (by lia), decide_eq_true (p := 65536 ≤ n) (by lia), decide_eq_false (p := 2097152 ≤ n) (by lia), decide_eq_false (p := 67108864 ≤ n) (by lia)]
          simp [g1, g2, g3]
        · by_cases g4 : n < 67108864
          · rw [decide_eq_true (p := 2048 ≤ n) (by lia), decide_eq_true (p := 65536 ≤ n) (by lia), decide_eq_true (p := 2097152 ≤ n) (by lia), decide_eq_false (p := 67108864 ≤ n) (by lia)]
            simp [g1, g2, g3, g4]
          · rw [decide_eq_true (p := 2048 ≤ n) (by lia), decide_eq_true (p := 65536 ≤ n) (by lia), decide_eq_true (p := 2097152 ≤ n) (by lia), decide_eq_true (p := 67108864 ≤ n) (by lia)]
            simp [g1, g2, g3, g4]
theorem utf_head {n : Int} (h0 : 0 ≤ n) (h1 : n < 2 ^ 31) : ∃ x r, utf n = x :: r ∧ ¬ (128 ≤ x ∧ x < 192) ∧ ∀ y ∈ r, 128 ≤ y ∧ y < 192 := by
  unfold utf
  by_cases h : n < 128
  · rw [if_pos h]
    exact ⟨n, [], rfl, by lia, by simp⟩
  · rw [if_neg h]
    have q := kOf_q (n := n) (by lia) h1
    have : 192 ≤ lead (kOf n) := by unfold lead; split <;> lia
    exact ⟨_, _, rfl, by lia, contB_ge _ _⟩
/-- where an octet is none of 128 to 191, a code begins -/
theorem flat_at : ∀ (nums : List Int) (at_ : Nat), (∀ n ∈ nums, 0 ≤ n ∧ n < 2 ^ 31) → at_ < (flat utf nums).length →
    (128 ≤ (flat utf nums).getD at_ 0 ∧ (flat utf nums).getD at_ 0 < 192) ∨ (¬ (128 ≤ (flat utf nums).getD at_ 0 ∧ (flat utf nums).getD at_ 0 < 192) ∧ ∃ n post, n ∈ nums ∧ (flat utf nums).drop at_ = utf n ++ post)
  | [], at_, _, h => by simp [flat] at h
  | n :: r, at_, hn, h => by
    obtain ⟨x, t, e, hx, ht⟩ := utf_head (hn n (by simp)).1 (hn n (by simp)).2
    rw [flat_cons] at h ⊢
    by_cases h0 : at_ = 0
    · subst h0
      right
      refine ⟨?_, n, flat utf r, by simp, rfl⟩
      rw [e]
      simpa using hx
    · by_cases h1 : at_ < (utf n).length
      · left
        rw [e] at h1 ⊢
        obtain ⟨j, rfl⟩ : ∃ j, at_ = j + 1 := ⟨at_ - 1, by lia⟩
        have hj : j < t.length := by simpa using h1
        have eg : ((x :: t) ++ flat utf r).getD (j + 1) 0 = t[j] := by
          simp [List.getElem?_append_left hj, hj]
        rw [eg]
        exact ht _ (List.getElem_mem hj)
      · have hlen : at_ - (utf n).length < (flat utf r).length := by rw [List.length_append] at h; lia
        have eg : (utf n ++ flat utf r).getD at_ 0 = (flat utf r).getD (at_ - (utf n).length) 0 := by
          simp [List.getElem?_append_right (Nat.not_lt.mp h1)]
        rw [eg]
        rcases flat_at r (at_ - (utf n).length) (fun m hm => hn m (by simp [hm])) hlen with q | ⟨q, m, post, hm, hd⟩
        · exact .inl q
        · refine .inr ⟨q, m, post, by simp [hm], ?_⟩
          rw [List.drop_append, List.drop_of_length_le (Nat.not_lt.mp h1), List.nil_append, hd]
end Mine
namespace Mine
/-- the facts of a compressed number that the law asks -/
structure BerOk (n : Int) : Prop where
  last : (ber n).getD (-1 + ((ber n).length : Int)).toNat 0 ≤ 127
  head : (ber n).getD (Int.toNat 0) 0 ≠ 128
  more : List.filter (fun a => decide (a < 128)) (List.take ((ber n).length - 1) (ber n)) = []
theorem ber_last (n : Int) : (ber n).getD (-1 + ((ber n).length : Int)).toNat 0 = n % 128 := by
  unfold ber
  have e : (-1 + ((berHi (n / 128) ++ [n % 128]).length : Int)).toNat = (berHi (n / 128)).length := by rw [List.length_append, List.length_singleton]; lia
  rw [e, List.getD_eq_getElem?_getD, List.getElem?_append_right (Nat.le_refl _)]
  simp
theorem ber_init (n : Int) : List.take ((ber n).length - 1) (ber n) = berHi (n / 128) := by
  unfold ber
  rw [List.length_append, List.length_singleton, Nat.add_sub_cancel, List.take_left]
theorem ber_ok {n : Int} (h0 : 0 ≤ n) (h1 : n < 2 ^ 31) : BerOk n := by
  refine ⟨?_, ?_, ?_⟩
  · rw [ber_last]; lia
  · show (ber n).getD 0 0 ≠ 128
    unfold ber
    by_cases h : n / 128 ≤ 0
    · rw [berHi_nonpos h]
      show n % 128 ≠ 128
      lia
    · obtain ⟨x, r, e, hx⟩ := berHi_head 9 (n / 128) (by lia) (by lia)
      rw [e]
      show x ≠ 128
      lia
  · rw [ber_init, List.filter_eq_nil_iff]
    intro x hx
    have := berHi_ge 9 (n / 128) (by lia) x hx
    simp only [decide_eq_true_eq]
    lia
theorem ber_next2 {n c : Int} (h : 0 < n) (hc : 0 ≤ c) (hc2 : c < 128) : ber (128 * n + c) = List.take ((ber n).length - 1) (ber n) ++ [(ber n).getD (-1 + ((ber n).length : Int)).toNat 0 + 128, c] := by
  rw [ber_next h hc hc2, ber_init, ber_last]
theorem four_all {P : Int → Prop} {n0 n1 n2 n3 : Int} (h0 : P n0) (h1 : P n1) (h2 : P n2) (h3 : P n3) : ∀ n ∈ [n0, n1, n2, n3], P n := by
  intro n hn
  simp only [List.mem_cons, List.not_mem_nil, or_false] at hn
  rcases hn with rfl | rfl | rfl | rfl <;> assumption
theorem four_at {P : Int → Prop} {n0 n1 n2 n3 : Int} (h : ∀ n ∈ [n0, n1, n2, n3], P n) (k : Int) (hk : 0 ≤ k) (hk2 : k < ((4 : Nat) : Int)) : P ([n0, n1, n2, n3].getD k.toNat 0) := by
  refine h _ ?_
  have : k = 0 ∨ k = 1 ∨ k = 2 ∨ k = 3 := by lia
  rcases this with rfl | rfl | rfl | rfl <;> simp
end Mine
namespace Mine
theorem flat_len {enc : Int → List Int} : ∀ {nums : List Int}, (∀ n ∈ nums, 0 < (enc n).length ∧ (enc n).length ≤ 100) → (flat enc nums).length ≤ 100 * nums.length
  | [], _ => by simp [flat]
  | n :: r, h => by
    have h1 := flat_len (nums := r) fun m hm => h m (.tail _ hm)
    have h2 := (h n (.head _)).2
    rw [flat_cons, List.length_append, List.length_cons]
    lia
end Mine
-- R7
open PySem PySem.W PyProof.Rows PySem.Calls PySem.Spec
namespace Mine
set_option maxHeartbeats 8000000 in
theorem read_codes (w : World) (l : Addr) (vs : List Value) (nums : List Int) (hI : IntsAre vs (flat utf nums)) (hlen : (flat utf nums).length ≤ 1000000) (hn : ∀ n ∈ nums, 0 ≤ n ∧ n < 2 ^ 31) (hnl : nums.length ≤ 1000) :
    PCall w 20 194 [.ref 81, .ref l] (fun h => h.IsList l vs.toArray) (fun h₀ h r => NewInts h₀ h r nums) := by
  unfold PCall prg
  k_fill
  intro mean mg mb dp un gd cn cs aC ccd cl outer A₀ base h₀ L m s Q E hB hF hX hT hK hDp hUn hpre hret
  refine wpAny_call ?_
  k_with_none
  k_with "op line" => (intro opX opE; (try simp only [bitAnd_m1, bitAnd_m4, bitAnd_m6, bitAnd_m7, bitAnd_m8, Int.reduceToNat, Int.reducePow] at opE))
  k_with "binaryOp BitAnd int int" => (k_here; (fail_if_success (with_reducible show wpAny _ _ (binaryOp _ (Value.int (OfNat.ofNat _) _) (Value.int (OfNat.ofNat _) _)) _ _ _)); (with_reducible refine o_and ?_); walk_at "op line")
  k_with "inplaceOp BitAnd int int" => (k_here; (fail_if_success (with_reducible show wpAny _ _ (inplaceOp _ (Value.int (OfNat.ofNat _) _) (Value.int (OfNat.ofNat _) _)) _ _ _)); (with_reducible refine o_iand ?_); walk_at "op line")
  k_with "binaryOp BitOr int int" => (k_here; (fail_if_success (with_reducible show wpAny _ _ (binaryOp _ (Value.int (OfNat.ofNat _) _) (Value.int (OfNat.ofNat _) _)) _ _ _)); (with_reducible refine o_or ?_); walk_at "op line")
  k_with "inplaceOp BitOr int int" => (k_here; (fail_if_success (with_reducible show wpAny _ _ (inplaceOp _ (Value.int (OfNat.ofNat _) _) (Value.int (OfNat.ofNat _) _)) _ _ _)); (with_reducible refine o_ior ?_); walk_at "op line")
  k_with "binaryOp RShift int int" => (k_here; (fail_if_success (with_reducible show wpAny _ _ (binaryOp _ (Value.int (OfNat.ofNat _) _) (Value.int (OfNat.ofNat _) _)) _ _ _)); (with_reducible refine o_rsh ?zq9kb1 ?_); (case zq9kb1 => l_bnd); walk_at "op line")
  k_with "inplaceOp RShift int int" => (k_here; (fail_if_success (with_reducible show wpAny _ _ (inplaceOp _ (Value.int (OfNat.ofNat _) _) (Value.int (OfNat.ofNat _) _)) _ _ _)); (with_reducible refine o_irsh ?zq9kb1 ?_); (case zq9kb1 => l_bnd); walk_at "op line")
  k_with "binaryOp LShift int int" => (k_here; (fail_if_success (with_reducible show wpAny _ _ (binaryOp _ (Value.int (OfNat.ofNat _) _) (Value.int (OfNat.ofNat _) _)) _ _ _)); (with_reducible refine o_lsh ?zq9kb1 ?zq9kb2 ?zq9kb3 ?_); (case zq9kb1 => l_bnd); (case zq9kb2 => l_bnd); (case zq9kb3 => l_bnd); walk_at "op line")
  k_with "pure enter" => (refine' code_pure ?zq9k1 ?zq9k2 ?zq9k3 ?zq9k5 ?zq9kA ?zq9kF ?zq9kK ?zq9k6 ?zq9k7 ?zq9k8 ?zq9k9 ?zq9kB ?_ ?zq9c2 ?zq9c3 ?zq9c4 ?zq9c5; (case zq9kA => exact rfl); (case zq9kF => exact rfl); (case zq9kK => assumption); (case zq9k1 => k_asm); (case zq9k2 => k_asm); (case zq9k3 => k_asm); (case zq9k5 => k_asm); (case zq9k6 => k_is); (case zq9k7 => k_is); (case zq9k8 => ktr_room); (case zq9k9 => exact BindsTo.of_eq rfl); (case zq9c5 => decide); (case zq9kB => exact locs rfl); (case zq9c2 => exact rfl); (case zq9c3 => exact rfl); (case zq9c4 => exact rfl); k_whole; intro L' h' F' N' B' X' T'; (try dsimp only); (try k_lift B'); (try k_fold))
  k_with "passes own line" => (with_reducible exact PySem.PassesOwn.leaving)
  k_with "kst facts1 line" => (first | with_reducible assumption | ((repeat (with_reducible refine IntsAre.cons _ _ ?_)); with_reducible exact IntsAre.nil) | exact IntsAre.append (by with_reducible assumption) (by with_reducible assumption) | exact IntsAre.append (by kst_facts1) (IntsAre.cons _ _ IntsAre.nil) | exact IntsAre.append (by kst_facts1) (IntsAre.cons _ _ (IntsAre.cons _ _ (IntsAre.cons _ _ IntsAre.nil))))
  k_with "sz" => ((try law_lens); (try simp only [List.size_toArray, Array.size_append, Array.size_push, Array.length_toList, List.length_append, List.length_cons, List.length_nil, List.length_reverse, List.length_map, PySem.sizeLine_eq] at *); omega)
  k_with "call builtin:list.reverse" => (k_here; (with_reducible show wpAny _ _ (call (Value.builtin _) [Value.ref _]) _ _ _); k_dflt (refine' kl_reverse ?zq9F ?zq9N ?zq9e ?zq9U ?zq9z ?_; (case zq9F => k_asm); (case zq9N => k_asm); (case zq9e => exact rfl); (case zq9U => k_upd); (case zq9z => walk_at "sz")); intro h' F' N'; (try k_sweep))
  k_with "all and" => ((repeat' (with_reducible apply And.intro)) <;> first | trivial | assumption | omega)
  k_with "exec While Compare cons nil" => (k_dflt (k_extra "while"))
  k_with "exec While BoolOp cons nil" => (k_dflt (k_extra "while"))
  k_with "exec While" => (k_dflt (k_extra "while"))
  k_with "use side" => ((case k1 => k_asm); (case k2 => k_asm); (case k3 => k_asm); (case k4 => k_asm); (case k5 => k_asm); (case kK => first | exact rfl | assumption); (case kd => ktr_room); (case ku => ktr_units))
  k_with "use new" => ((try simp only [AllNe, and_true] at l1); (try k_sweep); (try dsimp only); (try k_fold))
  k_with "is list" => first | exact trivial | assumption | exact News.isList (by k_asm) (by k_mem) | exact stays_list (Fr.keep (by k_asm)) (by assumption)
  k_with "call ref" => (k_dflt (k_extra "call"))
  k_with "exec Raise some none" => (k_dflt (exfalso; k_extra "raise"))
  k_with "for enter" => (ktd_said "for"; k_here; (rename Fr _ _ _ _ => lF'); (with_unfolding_all refine' For_invVF lF' ?zq9k1 ?zq9k2 ?_; (case zq9k1 => exact rfl); (case zq9k2 => exact rfl); k_whole))
  k_with "exec For Name Subscript cons nil" => (k_dflt (walk_at "for enter"))
  k_with "exec For Name Name cons nil" => (k_dflt (walk_at "for enter"))
  k_with "exec For Name Call cons nil" => (k_dflt (walk_at "for enter"))
  k_with "pyIter ref" => (k_dflt (k_extra "for"))
  k_with "exec Raise some none" => (k_dflt (k_extra "raise die"))
  k_with "turn enter" => (refine' code_turn ?zq9k1 ?zq9k2 ?zq9k3 ?zq9k5 ?zq9kD ?zq9kA ?zq9kF ?zq9kK ?zq9k6 ?zq9k7 ?zq9k8 ?zq9k9 ?zq9kB ?_ ?zq9c2 ?zq9c3 ?zq9c4 ?zq9c5; (case zq9kA => exact rfl); (case zq9kF => exact rfl); (case zq9kK => assumption); (case zq9k1 => k_asm); (case zq9k2 => k_asm); (case zq9k3 => k_asm); (case zq9k5 => k_asm); (case zq9kD => k_asm); (case zq9k6 => k_is); (case zq9k7 => k_is); (case zq9k8 => ktr_room); (case zq9k9 => exact BindsTo.of_eq rfl); (case zq9c5 => decide); (case zq9kB => exact locs rfl); (case zq9c2 => exact rfl); (case zq9c3 => exact rfl); (case zq9c4 => exact rfl); k_whole; intro L' h' F' N' B' X' T' D'; (try dsimp only); (try k_lift B'); (try k_fold))
  k_with "LeaveT" => (k_dflt (refine' leaveT_ ?zq9T9 ?zq9F9 ?_; (case zq9F9 => k_asm); (case zq9T9 => first | exact KtsTurn.refl | assumption)); intro tT; (try dsimp only))
  k_with "new pair" => (intro l' t' u' h' tk' F' N' l1; (try simp only [AllNe, and_true] at l1); (try k_sweep); (try dsimp only); (try k_fold))
  k_with "new ints" => (intro l' vs' n' h' tk' F' N' l1 hI'; (try simp only [AllNe, and_true] at l1); (try k_sweep); (try dsimp only); (try k_fold))
  k_with "grow turn" => (intro gVs gNs gK gPre gT gU gH gTk gI gIt gLt gCls l1 gIs gP gF gN; (try k_lt l1); have kM := kstMark; (try k_fold))
  k_with "grow done" => (intro gVs gNs gK gU gH gTk gI gP gF gN; have kM := kstMark; (try k_fold))
  k_with "eval Call" => (ktd_said "call"; k_here; k_dflt (refine Call_ ?_))
  k_with "new int" => (intro u' h' tk' F' N'; (try k_sweep); (try dsimp only); (try k_fold))
  k_with "eval BinOp" => (k_dflt (k_extra "fact"))
  k_with "new bool" => (intro h' tk' F' N'; (try k_sweep); (try dsimp only); (try k_fold))
  k_with "call builtin:list.extend" => (k_here; (with_reducible show wpAny _ _ (call (Value.builtin _) [Value.ref _, Value.ref _]) _ _ _); k_dflt (refine' my_extend ?zq9F ?zq9N ?zq9b ?zq9U ?zq9ne ?zq9z ?_; (case zq9F => k_asm); (case zq9N => k_asm); (case zq9b => k_mem); (case zq9U => k_upd); (case zq9ne => walk_at "sz"); (case zq9z => walk_at "sz")); intro h' F' N'; (try k_sweep))
  k_with "op line" => (intro opX opE; (try simp only [bitAnd_m1, bitAnd_m4, bitAnd_m6, bitAnd_m7, bitAnd_m8, Int.reduceToNat, Int.reducePow] at opE); (try k_dflt (k_extra "op")))
  k_with "call builtin:min" => ((with_reducible show wpAny _ _ (call (Value.builtin _) [Value.int _ _, Value.int _ _]) _ _ _); ktd_said "min"; (with_reducible rename News _ _ _ _ => N'); (with_unfolding_all apply min_two_N); (case hh => with_unfolding_all rfl); (case N => exact N'); (case F => assumption); clear N'; intro _ _ _ _; k_dflt (k_extra "min"))
  k_with "kmk size line" => ((refine kmk_sz (by l_ints) ?_; rw [PySem.sizeLine_eq]; omega))
  k_with "InvEndN" => (k_dflt kst_close)
  k_with "ite" => (k_here; k_closed; k_dflt (first | refine ite_pos (by decide) ?_ | refine ite_neg (by decide) ?_))
  k_with "sz" => ((simp only [List.size_toArray, Array.size_append, Array.size_push, Array.length_toList, List.length_append, List.length_cons, List.length_nil, List.length_reverse, List.length_map, PySem.sizeLine_eq]); first | omega | (law_lens; omega))
  k_with "kmk nums line" => (first | ((with_reducible refine' kmk_run ?zq9ka ?zq9kb ?zq9kc); (case zq9ka => l_ints); (case zq9kb => kmk_sign); (case zq9kc => kmk_sign)) | ((with_reducible refine' kmk_from ?zq9ka ?zq9kb); (case zq9ka => l_ints); (case zq9kb => kmk_sign)) | ((with_reducible refine' kmk_upto ?zq9ka ?zq9kb); (case zq9ka => l_ints); (case zq9kb => kmk_sign)) | ((with_reducible refine' kmk_upto_neg ?zq9ka ?zq9kb); (case zq9ka => l_ints); (case zq9kb => kmk_sign)))
  k_with "k ne line" => ((refine neN ?_; (try dsimp only); with_reducible first | assumption | exact Ne.symm (by assumption) | exact Nat.ne_of_lt (by assumption) | exact Nat.ne_of_gt (by assumption)))
  k_with "x close line" => ((rename DieRet _ _ => hr9); (rename Mem _ _ _ _ => hD9); refine' die_use hr9 hD9 ⟨_, _, ?zq9hm⟩; (case zq9hm => (repeat (first | exact List.Mem.head _ | refine List.Mem.tail _ ?_))))
  k_with "execs cons" => ((with_reducible refine Mine.execs_seq ?_); intro qk)
  k_dflt walk_at "pure enter"
  (k_with "while" => (k_while (fun _ i found => 0 ≤ i ∧ i ≤ (flat utf nums).length ∧ found.length ≤ nums.length ∧ ReadInv utf nums i found) (fun _ i _ => ((flat utf nums).length - i).toNat) "at" "found"))
  (k_with "state" => first
    | (obtain ⟨_, _, _, _⟩ := ReadInv.bounds (ReadInv.start (enc := utf) (nums := nums)); walk_at "all and")
    | (rename ReadInv utf nums (_ + _) _ => hq9; obtain ⟨_, _, _, _⟩ := hq9.bounds; walk_at "all and"))
  (k_with "call" => ((rename ReadInv utf nums _ _ => hR9); (obtain ⟨n9, post9, hm9, hd9, hnx9⟩ := hR9.head (by omega)); (have hup9 := utf_pos n9); (refine' use_pair (rutf_all w _ _ _ _ _ _ _ hI hlen ?c1 (hn _ hm9).1 (hn _ hm9).2 hd9) ?k1 ?k2 ?k3 ?k4 ?k5 ?kK ?kd ?ku ?kp ?_); (case c1 => omega); (case kp => walk_at "is list"); walk_at "use side"; walk_at "new pair"))
  (k_with "measure" => (omega))
  (repeat' (first | ((with_reducible first | refine Mine.seq_nil ?_ | refine Mine.seq_next ?_ | refine Mine.seq_ret ?_); (try dsimp only)) | (k_unfold; (try dsimp only)) | (k_end; kc_close) | walk1 | (dsimp only; walk1) | (leave1; walk_say "STEP leave1"; try dsimp only) | fail "no step"))
  refine pcall_ret hret (by assumption) ?_
  (rename ReadInv utf nums _ _ => hR9)
  have e := hR9.done utf_ne (by omega)
  (rename News s.heap _ _ _ => hN)
  refine newInts_of hN (by k_mem) ?_
  rw [← e]
  assumption
set_option maxHeartbeats 8000000 in
theorem read_bers (w : World) (l : Addr) (vs : List Value) (nums : List Int) (hI : IntsAre vs (flat ber nums)) (hlen : (flat ber nums).length ≤ 1000000) (hn : ∀ n ∈ nums, 0 ≤ n ∧ n < 2 ^ 62) (hnl : nums.length ≤ 1000) :
    PCall w 20 194 [.ref 67, .ref l] (fun h => h.IsList l vs.toArray) (fun h₀ h r => NewInts h₀ h r nums) := by
  unfold PCall prg
  k_fill
  intro mean mg mb dp un gd cn cs aC ccd cl outer A₀ base h₀ L m s Q E hB hF hX hT hK hDp hUn hpre hret
  refine wpAny_call ?_
  k_with_none
  k_with "op line" => (intro opX opE; (try simp only [bitAnd_m1, bitAnd_m4, bitAnd_m6, bitAnd_m7, bitAnd_m8, Int.reduceToNat, Int.reducePow] at opE))
  k_with "binaryOp BitAnd int int" => (k_here; (fail_if_success (with_reducible show wpAny _ _ (binaryOp _ (Value.int (OfNat.ofNat _) _) (Value.int (OfNat.ofNat _) _)) _ _ _)); (with_reducible refine o_and ?_); walk_at "op line")
  k_with "inplaceOp BitAnd int int" => (k_here; (fail_if_success (with_reducible show wpAny _ _ (inplaceOp _ (Value.int (OfNat.ofNat _) _) (Value.int (OfNat.ofNat _) _)) _ _ _)); (with_reducible refine o_iand ?_); walk_at "op line")
  k_with "binaryOp BitOr int int" => (k_here; (fail_if_success (with_reducible show wpAny _ _ (binaryOp _ (Value.int (OfNat.ofNat _) _) (Value.int (OfNat.ofNat _) _)) _ _ _)); (with_reducible refine o_or ?_); walk_at "op line")
  k_with "inplaceOp BitOr int int" => (k_here; (fail_if_success (with_reducible show wpAny _ _ (inplaceOp _ (Value.int (OfNat.ofNat _) _) (Value.int (OfNat.ofNat _) _)) _ _ _)); (with_reducible refine o_ior ?_); walk_at "op line")
  k_with "binaryOp RShift int int" => (k_here; (fail_if_success (with_reducible show wpAny _ _ (binaryOp _ (Value.int (OfNat.ofNat _) _) (Value.int (OfNat.ofNat _) _)) _ _ _)); (with_reducible refine o_rsh ?zq9kb1 ?_); (case zq9kb1 => l_bnd); walk_at "op line")
  k_with "inplaceOp RShift int int" => (k_here; (fail_if_success (with_reducible show wpAny _ _ (inplaceOp _ (Value.int (OfNat.ofNat _) _) (Value.int (OfNat.ofNat _) _)) _ _ _)); (with_reducible refine o_irsh ?zq9kb1 ?_); (case zq9kb1 => l_bnd); walk_at "op line")
  k_with "binaryOp LShift int int" => (k_here; (fail_if_success (with_reducible show wpAny _ _ (binaryOp _ (Value.int (OfNat.ofNat _) _) (Value.int (OfNat.ofNat _) _)) _ _ _)); (with_reducible refine o_lsh ?zq9kb1 ?zq9kb2 ?zq9kb3 ?_); (case zq9kb1 => l_bnd); (case zq9kb2 => l_bnd); (case zq9kb3 => l_bnd); walk_at "op line")
  k_with "pure enter" => (refine' code_pure ?zq9k1 ?zq9k2 ?zq9k3 ?zq9k5 ?zq9kA ?zq9kF ?zq9kK ?zq9k6 ?zq9k7 ?zq9k8 ?zq9k9 ?zq9kB ?_ ?zq9c2 ?zq9c3 ?zq9c4 ?zq9c5; (case zq9kA => exact rfl); (case zq9kF => exact rfl); (case zq9kK => assumption); (case zq9k1 => k_asm); (case zq9k2 => k_asm); (case zq9k3 => k_asm); (case zq9k5 => k_asm); (case zq9k6 => k_is); (case zq9k7 => k_is); (case zq9k8 => ktr_room); (case zq9k9 => exact BindsTo.of_eq rfl); (case zq9c5 => decide); (case zq9kB => exact locs rfl); (case zq9c2 => exact rfl); (case zq9c3 => exact rfl); (case zq9c4 => exact rfl); k_whole; intro L' h' F' N' B' X' T'; (try dsimp only); (try k_lift B'); (try k_fold))
  k_with "passes own line" => (with_reducible exact PySem.PassesOwn.leaving)
  k_with "kst facts1 line" => (first | with_reducible assumption | ((repeat (with_reducible refine IntsAre.cons _ _ ?_)); with_reducible exact IntsAre.nil) | exact IntsAre.append (by with_reducible assumption) (by with_reducible assumption) | exact IntsAre.append (by kst_facts1) (IntsAre.cons _ _ IntsAre.nil) | exact IntsAre.append (by kst_facts1) (IntsAre.cons _ _ (IntsAre.cons _ _ (IntsAre.cons _ _ IntsAre.nil))))
  k_with "sz" => ((try law_lens); (try simp only [List.size_toArray, Array.size_append, Array.size_push, Array.length_toList, List.length_append, List.length_cons, List.length_nil, List.length_reverse, List.length_map, PySem.sizeLine_eq] at *); omega)
  k_with "call builtin:list.reverse" => (k_here; (with_reducible show wpAny _ _ (call (Value.builtin _) [Value.ref _]) _ _ _); k_dflt (refine' kl_reverse ?zq9F ?zq9N ?zq9e ?zq9U ?zq9z ?_; (case zq9F => k_asm); (case zq9N => k_asm); (case zq9e => exact rfl); (case zq9U => k_upd); (case zq9z => walk_at "sz")); intro h' F' N'; (try k_sweep))
  k_with "all and" => ((repeat' (with_reducible apply And.intro)) <;> first | trivial | assumption | omega)
  k_with "exec While Compare cons nil" => (k_dflt (k_extra "while"))
  k_with "exec While BoolOp cons nil" => (k_dflt (k_extra "while"))
  k_with "exec While" => (k_dflt (k_extra "while"))
  k_with "use side" => ((case k1 => k_asm); (case k2 => k_asm); (case k3 => k_asm); (case k4 => k_asm); (case k5 => k_asm); (case kK => first | exact rfl | assumption); (case kd => ktr_room); (case ku => ktr_units))
  k_with "use new" => ((try simp only [AllNe, and_true] at l1); (try k_sweep); (try dsimp only); (try k_fold))
  k_with "is list" => first | exact trivial | assumption | exact News.isList (by k_asm) (by k_mem) | exact stays_list (Fr.keep (by k_asm)) (by assumption)
  k_with "call ref" => (k_dflt (k_extra "call"))
  k_with "exec Raise some none" => (k_dflt (exfalso; k_extra "raise"))
  k_with "for enter" => (ktd_said "for"; k_here; (rename Fr _ _ _ _ => lF'); (with_unfolding_all refine' For_invVF lF' ?zq9k1 ?zq9k2 ?_; (case zq9k1 => exact rfl); (case zq9k2 => exact rfl); k_whole))
  k_with "exec For Name Subscript cons nil" => (k_dflt (walk_at "for enter"))
  k_with "exec For Name Name cons nil" => (k_dflt (walk_at "for enter"))
  k_with "exec For Name Call cons nil" => (k_dflt (walk_at "for enter"))
  k_with "pyIter ref" => (k_dflt (k_extra "for"))
  k_with "exec Raise some none" => (k_dflt (k_extra "raise die"))
  k_with "turn enter" => (refine' code_turn ?zq9k1 ?zq9k2 ?zq9k3 ?zq9k5 ?zq9kD ?zq9kA ?zq9kF ?zq9kK ?zq9k6 ?zq9k7 ?zq9k8 ?zq9k9 ?zq9kB ?_ ?zq9c2 ?zq9c3 ?zq9c4 ?zq9c5; (case zq9kA => exact rfl); (case zq9kF => exact rfl); (case zq9kK => assumption); (case zq9k1 => k_asm); (case zq9k2 => k_asm); (case zq9k3 => k_asm); (case zq9k5 => k_asm); (case zq9kD => k_asm); (case zq9k6 => k_is); (case zq9k7 => k_is); (case zq9k8 => ktr_room); (case zq9k9 => exact BindsTo.of_eq rfl); (case zq9c5 => decide); (case zq9kB => exact locs rfl); (case zq9c2 => exact rfl); (case zq9c3 => exact rfl); (case zq9c4 => exact rfl); k_whole; intro L' h' F' N' B' X' T' D'; (try dsimp only); (try k_lift B'); (try k_fold))
  k_with "LeaveT" => (k_dflt (refine' leaveT_ ?zq9T9 ?zq9F9 ?_; (case zq9F9 => k_asm); (case zq9T9 => first | exact KtsTurn.refl | assumption)); intro tT; (try dsimp only))
  k_with "new pair" => (intro l' t' u' h' tk' F' N' l1; (try simp only [AllNe, and_true] at l1); (try k_sweep); (try dsimp only); (try k_fold))
  k_with "new ints" => (intro l' vs' n' h' tk' F' N' l1 hI'; (try simp only [AllNe, and_true] at l1); (try k_sweep); (try dsimp only); (try k_fold))
  k_with "grow turn" => (intro gVs gNs gK gPre gT gU gH gTk gI gIt gLt gCls l1 gIs gP gF gN; (try k_lt l1); have kM := kstMark; (try k_fold))
  k_with "grow done" => (intro gVs gNs gK gU gH gTk gI gP gF gN; have kM := kstMark; (try k_fold))
  k_with "eval Call" => (ktd_said "call"; k_here; k_dflt (refine Call_ ?_))
  k_with "new int" => (intro u' h' tk' F' N'; (try k_sweep); (try dsimp only); (try k_fold))
  k_with "eval BinOp" => (k_dflt (k_extra "fact"))
  k_with "new bool" => (intro h' tk' F' N'; (try k_sweep); (try dsimp only); (try k_fold))
  k_with "call builtin:list.extend" => (k_here; (with_reducible show wpAny _ _ (call (Value.builtin _) [Value.ref _, Value.ref _]) _ _ _); k_dflt (refine' my_extend ?zq9F ?zq9N ?zq9b ?zq9U ?zq9ne ?zq9z ?_; (case zq9F => k_asm); (case zq9N => k_asm); (case zq9b => k_mem); (case zq9U => k_upd); (case zq9ne => walk_at "sz"); (case zq9z => walk_at "sz")); intro h' F' N'; (try k_sweep))
  k_with "op line" => (intro opX opE; (try simp only [bitAnd_m1, bitAnd_m4, bitAnd_m6, bitAnd_m7, bitAnd_m8, Int.reduceToNat, Int.reducePow] at opE); (try k_dflt (k_extra "op")))
  k_with "call builtin:min" => ((with_reducible show wpAny _ _ (call (Value.builtin _) [Value.int _ _, Value.int _ _]) _ _ _); ktd_said "min"; (with_reducible rename News _ _ _ _ => N'); (with_unfolding_all apply min_two_N); (case hh => with_unfolding_all rfl); (case N => exact N'); (case F => assumption); clear N'; intro _ _ _ _; k_dflt (k_extra "min"))
  k_with "kmk size line" => ((refine kmk_sz (by l_ints) ?_; rw [PySem.sizeLine_eq]; omega))
  k_with "InvEndN" => (k_dflt kst_close)
  k_with "ite" => (k_here; k_closed; k_dflt (first | refine ite_pos (by decide) ?_ | refine ite_neg (by decide) ?_))
  k_with "sz" => ((simp only [List.size_toArray, Array.size_append, Array.size_push, Array.length_toList, List.length_append, List.length_cons, List.length_nil, List.length_reverse, List.length_map, PySem.sizeLine_eq]); first | omega | (law_lens; omega))
  k_with "kmk nums line" => (first | ((with_reducible refine' kmk_run ?zq9ka ?zq9kb ?zq9kc); (case zq9ka => l_ints); (case zq9kb => kmk_sign); (case zq9kc => kmk_sign)) | ((with_reducible refine' kmk_from ?zq9ka ?zq9kb); (case zq9ka => l_ints); (case zq9kb => kmk_sign)) | ((with_reducible refine' kmk_upto ?zq9ka ?zq9kb); (case zq9ka => l_ints); (case zq9kb => kmk_sign)) | ((with_reducible refine' kmk_upto_neg ?zq9ka ?zq9kb); (case zq9ka => l_ints); (case zq9kb => kmk_sign)))
  k_with "k ne line" => ((refine neN ?_; (try dsimp only); with_reducible first | assumption | exact Ne.symm (by assumption) | exact Nat.ne_of_lt (by assumption) | exact Nat.ne_of_gt (by assumption)))
  k_with "x close line" => ((rename DieRet _ _ => hr9); (rename Mem _ _ _ _ => hD9); refine' die_use hr9 hD9 ⟨_, _, ?zq9hm⟩; (case zq9hm => (repeat (first | exact List.Mem.head _ | refine List.Mem.tail _ ?_))))
  k_with "execs cons" => ((with_reducible refine Mine.execs_seq ?_); intro qk)
  k_dflt walk_at "pure enter"
  (k_with "while" => (k_while (fun _ i found => 0 ≤ i ∧ i ≤ (flat ber nums).length ∧ found.length ≤ nums.length ∧ ReadInv ber nums i found) (fun _ i _ => ((flat ber nums).length - i).toNat) "at" "found"))
  (k_with "state" => first
    | (obtain ⟨_, _, _, _⟩ := ReadInv.bounds (ReadInv.start (enc := ber) (nums := nums)); walk_at "all and")
    | (rename ReadInv ber nums (_ + _) _ => hq9; obtain ⟨_, _, _, _⟩ := hq9.bounds; walk_at "all and"))
  (k_with "call" => ((rename ReadInv ber nums _ _ => hR9); (obtain ⟨n9, post9, hm9, hd9, hnx9⟩ := hR9.head (by omega)); (have hup9 := ber_pos n9); (refine' use_pair (rber_c w _ _ _ _ _ _ _ hI hlen ?c1 (hn _ hm9).1 (hn _ hm9).2 hd9) ?k1 ?k2 ?k3 ?k4 ?k5 ?kK ?kd ?ku ?kp ?_); (case c1 => omega); (case kp => walk_at "is list"); walk_at "use side"; walk_at "new pair"))
  (k_with "measure" => (omega))
  (repeat' (first | ((with_reducible first | refine Mine.seq_nil ?_ | refine Mine.seq_next ?_ | refine Mine.seq_ret ?_); (try dsimp only)) | (k_unfold; (try dsimp only)) | (k_end; kc_close) | walk1 | (dsimp only; walk1) | (leave1; walk_say "STEP leave1"; try dsimp only) | fail "no step"))
  refine pcall_ret hret (by assumption) ?_
  (rename ReadInv ber nums _ _ => hR9)
  have e := hR9.done ber_ne (by omega)
  (rename News s.heap _ _ _ => hN)
  refine newInts_of hN (by k_mem) ?_
  rw [← e]
  assumption
end Mine
-- Px6
open PySem PySem.W PyProof.Rows
namespace Mine
section
variable {o z x p a b c q r : Int}
theorem six1 (e : o = Builtin.bitOr z x) (hz : z = 0 * 64) (hx : x = a / 4) (ha : 0 ≤ a ∧ a < 256) : o = a / 4 := by
  rw [or6 e (by lia) (by lia) (by lia) (by lia)]; lia
theorem six2 (e : o = Builtin.bitOr z x) (hz : z = p * 64) (hp : p = a / 4) (hx : x = a % 4 * 16 + b / 16) (ha : 0 ≤ a ∧ a < 256) (hb : 0 ≤ b ∧ b < 256) : o = a * 16 + b / 16 := by
  rw [or6 e (by lia) (by lia) (by lia) (by lia)]; lia
theorem six3 (e : o = Builtin.bitOr z x) (hz : z = p * 64) (hp : p = a * 16 + b / 16) (hx : x = b % 16 * 4 + c / 64) (ha : 0 ≤ a ∧ a < 256) (hb : 0 ≤ b ∧ b < 256) (hc : 0 ≤ c ∧ c < 256) : o = a * 1024 + b * 4 + c / 64 := by
  rw [or6 e (by lia) (by lia) (by lia) (by lia)]; lia
theorem six4 (e : o = Builtin.bitOr z x) (hz : z = p * 64) (hp : p = a * 1024 + b * 4 + c / 64) (hx : x = c % 64) (ha : 0 ≤ a ∧ a < 256) (hb : 0 ≤ b ∧ b < 256) (hc : 0 ≤ c ∧ c < 256) : o = a * 65536 + b * 256 + c := by
  rw [or6 e (by lia) (by lia) (by lia) (by lia)]; lia
theorem top_a (h2 : r = q % 256) (h1 : q = o / 65536) (ho : o = a * 65536 + b * 256 + c) (ha : 0 ≤ a ∧ a < 256) (hb : 0 ≤ b ∧ b < 256) (hc : 0 ≤ c ∧ c < 256) : r = a := by lia
theorem top_b (h2 : r = q % 256) (h1 : q = o / 256) (ho : o = a * 65536 + b * 256 + c) (hb : 0 ≤ b ∧ b < 256) (hc : 0 ≤ c ∧ c < 256) : r = b := by lia
theorem top_c (h2 : r = o % 256) (ho : o = a * 65536 + b * 256 + c) (hc : 0 ≤ c ∧ c < 256) : r = c := by lia
end
end Mine
-- S1
open PySem PySem.W PyProof.Rows PySem.Calls PySem.Spec
namespace Mine
set_option maxHeartbeats 8000000 in
theorem uuS_c (w : World) (x : Int) (t : Tok) : PCall w 5 123 [.int x t] (fun _ => True) (fun h₀ h r => ∃ u, r = .int (uuS x) u) := by
  unfold PCall prg
  k_fill
  intro mean mg mb dp un gd cn cs aC ccd cl outer A₀ base h₀ L m s Q E hB hF hX hT hK hDp hUn hpre hret
  refine wpAny_call ?_
  k_with_none
  k_with "op line" => (intro opX opE; (try simp only [bitAnd_m1, bitAnd_m4, bitAnd_m6, bitAnd_m7, bitAnd_m8, Int.reduceToNat, Int.reducePow] at opE))
  k_with "binaryOp BitAnd int int" => (k_here; (fail_if_success (with_reducible show wpAny _ _ (binaryOp _ (Value.int (OfNat.ofNat _) _) (Value.int (OfNat.ofNat _) _)) _ _ _)); (with_reducible refine o_and ?_); walk_at "op line")
  k_with "inplaceOp BitAnd int int" => (k_here; (fail_if_success (with_reducible show wpAny _ _ (inplaceOp _ (Value.int (OfNat.ofNat _) _) (Value.int (OfNat.ofNat _) _)) _ _ _)); (with_reducible refine o_iand ?_); walk_at "op line")
  k_with "binaryOp BitOr int int" => (k_here; (fail_if_success (with_reducible show wpAny _ _ (binaryOp _ (Value.int (OfNat.ofNat _) _) (Value.int (OfNat.ofNat _) _)) _ _ _)); (with_reducible refine o_or ?_); walk_at "op line")
  k_with "inplaceOp BitOr int int" => (k_here; (fail_if_success (with_reducible show wpAny _ _ (inplaceOp _ (Value.int (OfNat.ofNat _) _) (Value.int (OfNat.ofNat _) _)) _ _ _)); (with_reducible refine o_ior ?_); walk_at "op line")
  k_with "binaryOp RShift int int" => (k_here; (fail_if_success (with_reducible show wpAny _ _ (binaryOp _ (Value.int (OfNat.ofNat _) _) (Value.int (OfNat.ofNat _) _)) _ _ _)); (with_reducible refine o_rsh ?zq9kb1 ?_); (case zq9kb1 => l_bnd); walk_at "op line")
  k_with "inplaceOp RShift int int" => (k_here; (fail_if_success (with_reducible show wpAny _ _ (inplaceOp _ (Value.int (OfNat.ofNat _) _) (Value.int (OfNat.ofNat _) _)) _ _ _)); (with_reducible refine o_irsh ?zq9kb1 ?_); (case zq9kb1 => l_bnd); walk_at "op line")
  k_with "binaryOp LShift int int" => (k_here; (fail_if_success (with_reducible show wpAny _ _ (binaryOp _ (Value.int (OfNat.ofNat _) _) (Value.int (OfNat.ofNat _) _)) _ _ _)); (with_reducible refine o_lsh ?zq9kb1 ?zq9kb2 ?zq9kb3 ?_); (case zq9kb1 => l_bnd); (case zq9kb2 => l_bnd); (case zq9kb3 => l_bnd); walk_at "op line")
  k_with "pure enter" => (refine' code_pure ?zq9k1 ?zq9k2 ?zq9k3 ?zq9k5 ?zq9kA ?zq9kF ?zq9kK ?zq9k6 ?zq9k7 ?zq9k8 ?zq9k9 ?zq9kB ?_ ?zq9c2 ?zq9c3 ?zq9c4 ?zq9c5; (case zq9kA => exact rfl); (case zq9kF => exact rfl); (case zq9kK => assumption); (case zq9k1 => k_asm); (case zq9k2 => k_asm); (case zq9k3 => k_asm); (case zq9k5 => k_asm); (case zq9k6 => k_is); (case zq9k7 => k_is); (case zq9k8 => ktr_room); (case zq9k9 => exact BindsTo.of_eq rfl); (case zq9c5 => decide); (case zq9kB => exact locs rfl); (case zq9c2 => exact rfl); (case zq9c3 => exact rfl); (case zq9c4 => exact rfl); k_whole; intro L' h' F' N' B' X' T'; (try dsimp only); (try k_lift B'); (try k_fold))
  k_with "passes own line" => (with_reducible exact PySem.PassesOwn.leaving)
  k_with "kst facts1 line" => (first | with_reducible assumption | ((repeat (with_reducible refine IntsAre.cons _ _ ?_)); with_reducible exact IntsAre.nil) | exact IntsAre.append (by with_reducible assumption) (by with_reducible assumption) | exact IntsAre.append (by kst_facts1) (IntsAre.cons _ _ IntsAre.nil) | exact IntsAre.append (by kst_facts1) (IntsAre.cons _ _ (IntsAre.cons _ _ (IntsAre.cons _ _ IntsAre.nil))))
  k_with "sz" => ((try law_lens); (try simp only [List.size_toArray, Array.size_append, Array.size_push, Array.length_toList, List.length_append, List.length_cons, List.length_nil, List.length_reverse, List.length_map, PySem.sizeLine_eq] at *); omega)
  k_with "call builtin:list.reverse" => (k_here; (with_reducible show wpAny _ _ (call (Value.builtin _) [Value.ref _]) _ _ _); k_dflt (refine' kl_reverse ?zq9F ?zq9N ?zq9e ?zq9U ?zq9z ?_; (case zq9F => k_asm); (case zq9N => k_asm); (case zq9e => exact rfl); (case zq9U => k_upd); (case zq9z => walk_at "sz")); intro h' F' N'; (try k_sweep))
  k_with "all and" => ((repeat' (with_reducible apply And.intro)) <;> first | trivial | assumption | omega)
  k_with "exec While Compare cons nil" => (k_dflt (k_extra "while"))
  k_with "exec While BoolOp cons nil" => (k_dflt (k_extra "while"))
  k_with "exec While" => (k_dflt (k_extra "while"))
  k_with "use side" => ((case k1 => k_asm); (case k2 => k_asm); (case k3 => k_asm); (case k4 => k_asm); (case k5 => k_asm); (case kK => first | exact rfl | assumption); (case kd => ktr_room); (case ku => ktr_units))
  k_with "use new" => ((try simp only [AllNe, and_true] at l1); (try k_sweep); (try dsimp only); (try k_fold))
  k_with "is list" => first | exact trivial | assumption | exact News.isList (by k_asm) (by k_mem) | exact stays_list (Fr.keep (by k_asm)) (by assumption)
  k_with "call ref" => (k_dflt (k_extra "call"))
  k_with "exec Raise some none" => (k_dflt (exfalso; k_extra "raise"))
  k_with "for enter" => (ktd_said "for"; k_here; (rename Fr _ _ _ _ => lF'); (with_unfolding_all refine' For_invVF lF' ?zq9k1 ?zq9k2 ?_; (case zq9k1 => exact rfl); (case zq9k2 => exact rfl); k_whole))
  k_with "exec For Name Subscript cons nil" => (k_dflt (walk_at "for enter"))
  k_with "exec For Name Name cons nil" => (k_dflt (walk_at "for enter"))
  k_with "exec For Name Call cons nil" => (k_dflt (walk_at "for enter"))
  k_with "pyIter ref" => (k_dflt (k_extra "for"))
  k_with "exec Raise some none" => (k_dflt (k_extra "raise die"))
  k_with "turn enter" => (refine' code_turn ?zq9k1 ?zq9k2 ?zq9k3 ?zq9k5 ?zq9kD ?zq9kA ?zq9kF ?zq9kK ?zq9k6 ?zq9k7 ?zq9k8 ?zq9k9 ?zq9kB ?_ ?zq9c2 ?zq9c3 ?zq9c4 ?zq9c5; (case zq9kA => exact rfl); (case zq9kF => exact rfl); (case zq9kK => assumption); (case zq9k1 => k_asm); (case zq9k2 => k_asm); (case zq9k3 => k_asm); (case zq9k5 => k_asm); (case zq9kD => k_asm); (case zq9k6 => k_is); (case zq9k7 => k_is); (case zq9k8 => ktr_room); (case zq9k9 => exact BindsTo.of_eq rfl); (case zq9c5 => decide); (case zq9kB => exact locs rfl); (case zq9c2 => exact rfl); (case zq9c3 => exact rfl); (case zq9c4 => exact rfl); k_whole; intro L' h' F' N' B' X' T' D'; (try dsimp only); (try k_lift B'); (try k_fold))
  k_with "LeaveT" => (k_dflt (refine' leaveT_ ?zq9T9 ?zq9F9 ?_; (case zq9F9 => k_asm); (case zq9T9 => first | exact KtsTurn.refl | assumption)); intro tT; (try dsimp only))
  k_with "new pair" => (intro l' t' u' h' tk' F' N' l1; (try simp only [AllNe, and_true] at l1); (try k_sweep); (try dsimp only); (try k_fold))
  k_with "new ints" => (intro l' vs' n' h' tk' F' N' l1 hI'; (try simp only [AllNe, and_true] at l1); (try k_sweep); (try dsimp only); (try k_fold))
  k_with "grow turn" => (intro gVs gNs gK gPre gT gU gH gTk gI gIt gLt gCls l1 gIs gP gF gN; (try k_lt l1); have kM := kstMark; (try k_fold))
  k_with "grow done" => (intro gVs gNs gK gU gH gTk gI gP gF gN; have kM := kstMark; (try k_fold))
  k_with "eval Call" => (ktd_said "call"; k_here; k_dflt (refine Call_ ?_))
  k_with "new int" => (intro u' h' tk' F' N'; (try k_sweep); (try dsimp only); (try k_fold))
  k_with "eval BinOp" => (k_dflt (k_extra "fact"))
  k_with "new bool" => (intro h' tk' F' N'; (try k_sweep); (try dsimp only); (try k_fold))
  k_with "call builtin:list.extend" => (k_here; (with_reducible show wpAny _ _ (call (Value.builtin _) [Value.ref _, Value.ref _]) _ _ _); k_dflt (refine' my_extend ?zq9F ?zq9N ?zq9b ?zq9U ?zq9ne ?zq9z ?_; (case zq9F => k_asm); (case zq9N => k_asm); (case zq9b => k_mem); (case zq9U => k_upd); (case zq9ne => walk_at "sz"); (case zq9z => walk_at "sz")); intro h' F' N'; (try k_sweep))
  k_with "op line" => (intro opX opE; (try simp only [bitAnd_m1, bitAnd_m4, bitAnd_m6, bitAnd_m7, bitAnd_m8, Int.reduceToNat, Int.reducePow] at opE); (try k_dflt (k_extra "op")))
  k_with "call builtin:min" => ((with_reducible show wpAny _ _ (call (Value.builtin _) [Value.int _ _, Value.int _ _]) _ _ _); ktd_said "min"; (with_reducible rename News _ _ _ _ => N'); (with_unfolding_all apply min_two_N); (case hh => with_unfolding_all rfl); (case N => exact N'); (case F => assumption); clear N'; intro _ _ _ _; k_dflt (k_extra "min"))
  k_with "kmk size line" => ((refine kmk_sz (by l_ints) ?_; rw [PySem.sizeLine_eq]; omega))
  k_with "InvEndN" => (k_dflt kst_close)
  k_with "ite" => (k_here; k_closed; k_dflt (first | refine ite_pos (by decide) ?_ | refine ite_neg (by decide) ?_))
  k_with "sz" => ((simp only [List.size_toArray, Array.size_append, Array.size_push, Array.length_toList, List.length_append, List.length_cons, List.length_nil, List.length_reverse, List.length_map, PySem.sizeLine_eq]); first | omega | (law_lens; omega))
  k_with "kmk nums line" => (first | ((with_reducible refine' kmk_run ?zq9ka ?zq9kb ?zq9kc); (case zq9ka => l_ints); (case zq9kb => kmk_sign); (case zq9kc => kmk_sign)) | ((with_reducible refine' kmk_from ?zq9ka ?zq9kb); (case zq9ka => l_ints); (case zq9kb => kmk_sign)) | ((with_reducible refine' kmk_upto ?zq9ka ?zq9kb); (case zq9ka => l_ints); (case zq9kb => kmk_sign)) | ((with_reducible refine' kmk_upto_neg ?zq9ka ?zq9kb); (case zq9ka => l_ints); (case zq9kb => kmk_sign)))
  k_with "k ne line" => ((refine neN ?_; (try dsimp only); with_reducible first | assumption | exact Ne.symm (by assumption) | exact Nat.ne_of_lt (by assumption) | exact Nat.ne_of_gt (by assumption)))
  k_with "execs cons" => ((with_reducible refine Mine.execs_seq ?_); intro qk)
  k_dflt walk_at "pure enter"
  (repeat' (first | ((with_reducible first | refine Mine.seq_nil ?_ | refine Mine.seq_next ?_ | refine Mine.seq_ret ?_); (try dsimp only)) | (k_unfold; (try dsimp only)) | (k_end; kc_close) | walk1 | (dsimp only; walk1) | (leave1; walk_say "STEP leave1"; try dsimp only) | fail "no step"))
  · refine pcall_ret hret (by assumption) ?_
    rw [show uuS x = 32 + x from if_neg (by assumption)]
    exact ⟨_, rfl⟩
  · refine pcall_ret hret (by assumption) ?_
    rw [show uuS x = 96 from if_pos (by assumption)]
    exact ⟨_, rfl⟩
@[elab_as_elim] theorem three_elim {ns : List Int} {i : Nat} {ws : List Value} {motive : List Value → Prop}
    (hI : IntsAre ws (List.take 3 (List.take (min (0 + (i : Int) * 3 + 3).toNat ns.length - (0 + (i : Int) * 3).toNat) (List.drop (0 + (i : Int) * 3).toNat ns) ++ [0, 0]))) (hb : ∀ x ∈ ns, 0 ≤ x ∧ x < 256) (hi : i < (ns.length + 2) / 3)
    (k : ∀ a b c t u v, three (ns.drop (3 * i)) = [a, b, c] → (0 ≤ a ∧ a < 256) → (0 ≤ b ∧ b < 256) → (0 ≤ c ∧ c < 256) → motive [.int a t, .int b u, .int c v]) : motive ws := by
  obtain ⟨a, b, c, e, q, h1, h2, h3⟩ := three_at hb hi
  rw [e] at hI
  cases hI with
  | cons _ t hI => cases hI with
    | cons _ u hI => cases hI with
      | cons _ v hI =>
        cases hI
        exact k a b c t u v q h1 h2 h3
set_option maxHeartbeats 8000000 in
theorem uuLine_c (w : World) (l : Addr) (vs : List Value) (ns : List Int) (hI : IntsAre vs ns) (hlen : ns.length ≤ 63) (hb : ∀ x ∈ ns, 0 ≤ x ∧ x < 256) :
    PCall w 10 130 [.ref l] (fun h => h.IsList l vs.toArray) (fun h₀ h r => NewInts h₀ h r (uuLine ns)) := by
  unfold PCall prg
  k_fill
  intro mean mg mb dp un gd cn cs aC ccd cl outer A₀ base h₀ L m s Q E hB hF hX hT hK hDp hUn hpre hret
  refine wpAny_call ?_
  k_with_none
  k_with "op line" => (intro opX opE; (try simp only [bitAnd_m1, bitAnd_m4, bitAnd_m6, bitAnd_m7, bitAnd_m8, Int.reduceToNat, Int.reducePow] at opE))
  k_with "binaryOp BitAnd int int" => (k_here; (fail_if_success (with_reducible show wpAny _ _ (binaryOp _ (Value.int (OfNat.ofNat _) _) (Value.int (OfNat.ofNat _) _)) _ _ _)); (with_reducible refine o_and ?_); walk_at "op line")
  k_with "inplaceOp BitAnd int int" => (k_here; (fail_if_success (with_reducible show wpAny _ _ (inplaceOp _ (Value.int (OfNat.ofNat _) _) (Value.int (OfNat.ofNat _) _)) _ _ _)); (with_reducible refine o_iand ?_); walk_at "op line")
  k_with "binaryOp BitOr int int" => (k_here; (fail_if_success (with_reducible show wpAny _ _ (binaryOp _ (Value.int (OfNat.ofNat _) _) (Value.int (OfNat.ofNat _) _)) _ _ _)); (with_reducible refine o_or ?_); walk_at "op line")
  k_with "inplaceOp BitOr int int" => (k_here; (fail_if_success (with_reducible show wpAny _ _ (inplaceOp _ (Value.int (OfNat.ofNat _) _) (Value.int (OfNat.ofNat _) _)) _ _ _)); (with_reducible refine o_ior ?_); walk_at "op line")
  k_with "binaryOp RShift int int" => (k_here; (fail_if_success (with_reducible show wpAny _ _ (binaryOp _ (Value.int (OfNat.ofNat _) _) (Value.int (OfNat.ofNat _) _)) _ _ _)); (with_reducible refine o_rsh ?zq9kb1 ?_); (case zq9kb1 => l_bnd); walk_at "op line")
  k_with "inplaceOp RShift int int" => (k_here; (fail_if_success (with_reducible show wpAny _ _ (inplaceOp _ (Value.int (OfNat.ofNat _) _) (Value.int (OfNat.ofNat _) _)) _ _ _)); (with_reducible refine o_irsh ?zq9kb1 ?_); (case zq9kb1 => l_bnd); walk_at "op line")
  k_with "binaryOp LShift int int" => (k_here; (fail_if_success (with_reducible show wpAny _ _ (binaryOp _ (Value.int (OfNat.ofNat _) _) (Value.int (OfNat.ofNat _) _)) _ _ _)); (with_reducible refine o_lsh ?zq9kb1 ?zq9kb2 ?zq9kb3 ?_); (case zq9kb1 => l_bnd); (case zq9kb2 => l_bnd); (case zq9kb3 => l_bnd); walk_at "op line")
  k_with "pure enter" => (refine' code_pure ?zq9k1 ?zq9k2 ?zq9k3 ?zq9k5 ?zq9kA ?zq9kF ?zq9kK ?zq9k6 ?zq9k7 ?zq9k8 ?zq9k9 ?zq9kB ?_ ?zq9c2 ?zq9c3 ?zq9c4 ?zq9c5; (case zq9kA => exact rfl); (case zq9kF => exact rfl); (case zq9kK => assumption); (case zq9k1 => k_asm); (case zq9k2 => k_asm); (case zq9k3 => k_asm); (case zq9k5 => k_asm); (case zq9k6 => k_is); (case zq9k7 => k_is); (case zq9k8 => ktr_room); (case zq9k9 => exact BindsTo.of_eq rfl); (case zq9c5 => decide); (case zq9kB => exact locs rfl); (case zq9c2 => exact rfl); (case zq9c3 => exact rfl); (case zq9c4 => exact rfl); k_whole; intro L' h' F' N' B' X' T'; (try dsimp only); (try k_lift B'); (try k_fold))
  k_with "passes own line" => (with_reducible exact PySem.PassesOwn.leaving)
  k_with "kst facts1 line" => (first | with_reducible assumption | ((repeat (with_reducible refine IntsAre.cons _ _ ?_)); with_reducible exact IntsAre.nil) | exact IntsAre.append (by with_reducible assumption) (by with_reducible assumption) | exact IntsAre.append (by kst_facts1) (IntsAre.cons _ _ IntsAre.nil) | exact IntsAre.append (by kst_facts1) (IntsAre.cons _ _ (IntsAre.cons _ _ (IntsAre.cons _ _ IntsAre.nil))))
  k_with "sz" => ((try law_lens); (try simp only [List.size_toArray, Array.size_append, Array.size_push, Array.length_toList, List.length_append, List.length_cons, List.length_nil, List.length_reverse, List.length_map, PySem.sizeLine_eq] at *); omega)
  k_with "call builtin:list.reverse" => (k_here; (with_reducible show wpAny _ _ (call (Value.builtin _) [Value.ref _]) _ _ _); k_dflt (refine' kl_reverse ?zq9F ?zq9N ?zq9e ?zq9U ?zq9z ?_; (case zq9F => k_asm); (case zq9N => k_asm); (case zq9e => exact rfl); (case zq9U => k_upd); (case zq9z => walk_at "sz")); intro h' F' N'; (try k_sweep))
  k_with "all and" => ((repeat' (with_reducible apply And.intro)) <;> first | trivial | assumption | omega)
  k_with "exec While Compare cons nil" => (k_dflt (k_extra "while"))
  k_with "exec While BoolOp cons nil" => (k_dflt (k_extra "while"))
  k_with "exec While" => (k_dflt (k_extra "while"))
  k_with "use side" => ((case k1 => k_asm); (case k2 => k_asm); (case k3 => k_asm); (case k4 => k_asm); (case k5 => k_asm); (case kK => first | exact rfl | assumption); (case kd => ktr_room); (case ku => ktr_units))
  k_with "use new" => ((try simp only [AllNe, and_true] at l1); (try k_sweep); (try dsimp only); (try k_fold))
  k_with "is list" => first | exact trivial | assumption | exact News.isList (by k_asm) (by k_mem) | exact stays_list (Fr.keep (by k_asm)) (by assumption)
  k_with "call ref" => (k_dflt (k_extra "call"))
  k_with "exec Raise some none" => (k_dflt (exfalso; k_extra "raise"))
  k_with "for enter" => (ktd_said "for"; k_here; (rename Fr _ _ _ _ => lF'); (with_unfolding_all refine' For_invVF lF' ?zq9k1 ?zq9k2 ?_; (case zq9k1 => exact rfl); (case zq9k2 => exact rfl); k_whole))
  k_with "exec For Name Subscript cons nil" => (k_dflt (walk_at "for enter"))
  k_with "exec For Name Name cons nil" => (k_dflt (walk_at "for enter"))
  k_with "exec For Name Call cons nil" => (k_dflt (walk_at "for enter"))
  k_with "pyIter ref" => (k_dflt (k_extra "for"))
  k_with "exec Raise some none" => (k_dflt (k_extra "raise die"))
  k_with "turn enter" => (refine' code_turn ?zq9k1 ?zq9k2 ?zq9k3 ?zq9k5 ?zq9kD ?zq9kA ?zq9kF ?zq9kK ?zq9k6 ?zq9k7 ?zq9k8 ?zq9k9 ?zq9kB ?_ ?zq9c2 ?zq9c3 ?zq9c4 ?zq9c5; (case zq9kA => exact rfl); (case zq9kF => exact rfl); (case zq9kK => assumption); (case zq9k1 => k_asm); (case zq9k2 => k_asm); (case zq9k3 => k_asm); (case zq9k5 => k_asm); (case zq9kD => k_asm); (case zq9k6 => k_is); (case zq9k7 => k_is); (case zq9k8 => ktr_room); (case zq9k9 => exact BindsTo.of_eq rfl); (case zq9c5 => decide); (case zq9kB => exact locs rfl); (case zq9c2 => exact rfl); (case zq9c3 => exact rfl); (case zq9c4 => exact rfl); k_whole; intro L' h' F' N' B' X' T' D'; (try dsimp only); (try k_lift B'); (try k_fold))
  k_with "LeaveT" => (k_dflt (refine' leaveT_ ?zq9T9 ?zq9F9 ?_; (case zq9F9 => k_asm); (case zq9T9 => first | exact KtsTurn.refl | assumption)); intro tT; (try dsimp only))
  k_with "new pair" => (intro l' t' u' h' tk' F' N' l1; (try simp only [AllNe, and_true] at l1); (try k_sweep); (try dsimp only); (try k_fold))
  k_with "new ints" => (intro l' vs' n' h' tk' F' N' l1 hI'; (try simp only [AllNe, and_true] at l1); (try k_sweep); (try dsimp only); (try k_fold))
  k_with "grow turn" => (intro gVs gNs gK gPre gT gU gH gTk gI gIt gLt gCls l1 gIs gP gF gN; (try k_lt l1); have kM := kstMark; (try k_fold))
  k_with "grow done" => (intro gVs gNs gK gU gH gTk gI gP gF gN; have kM := kstMark; (try k_fold))
  k_with "eval Call" => (ktd_said "call"; k_here; k_dflt (refine Call_ ?_))
  k_with "new int" => (intro u' h' tk' F' N'; (try k_sweep); (try dsimp only); (try k_fold))
  k_with "eval BinOp" => (k_dflt (k_extra "fact"))
  k_with "new bool" => (intro h' tk' F' N'; (try k_sweep); (try dsimp only); (try k_fold))
  k_with "call builtin:list.extend" => (k_here; (with_reducible show wpAny _ _ (call (Value.builtin _) [Value.ref _, Value.ref _]) _ _ _); k_dflt (refine' my_extend ?zq9F ?zq9N ?zq9b ?zq9U ?zq9ne ?zq9z ?_; (case zq9F => k_asm); (case zq9N => k_asm); (case zq9b => k_mem); (case zq9U => k_upd); (case zq9ne => walk_at "sz"); (case zq9z => walk_at "sz")); intro h' F' N'; (try k_sweep))
  k_with "op line" => (intro opX opE; (try simp only [bitAnd_m1, bitAnd_m4, bitAnd_m6, bitAnd_m7, bitAnd_m8, Int.reduceToNat, Int.reducePow] at opE); (try k_dflt (k_extra "op")))
  k_with "call builtin:min" => ((with_reducible show wpAny _ _ (call (Value.builtin _) [Value.int _ _, Value.int _ _]) _ _ _); ktd_said "min"; (with_reducible rename News _ _ _ _ => N'); (with_unfolding_all apply min_two_N); (case hh => with_unfolding_all rfl); (case N => exact N'); (case F => assumption); clear N'; intro _ _ _ _; k_dflt (k_extra "min"))
  k_with "kmk size line" => ((refine kmk_sz (by l_ints) ?_; rw [PySem.sizeLine_eq]; omega))
  k_with "InvEndN" => (k_dflt kst_close)
  k_with "ite" => (k_here; k_closed; k_dflt (first | refine ite_pos (by decide) ?_ | refine ite_neg (by decide) ?_))
  k_with "sz" => ((simp only [List.size_toArray, Array.size_append, Array.size_push, Array.length_toList, List.length_append, List.length_cons, List.length_nil, List.length_reverse, List.length_map, PySem.sizeLine_eq]); first | omega | (law_lens; omega))
  k_with "kmk nums line" => (first | ((with_reducible refine' kmk_run ?zq9ka ?zq9kb ?zq9kc); (case zq9ka => l_ints); (case zq9kb => kmk_sign); (case zq9kc => kmk_sign)) | ((with_reducible refine' kmk_from ?zq9ka ?zq9kb); (case zq9ka => l_ints); (case zq9kb => kmk_sign)) | ((with_reducible refine' kmk_upto ?zq9ka ?zq9kb); (case zq9ka => l_ints); (case zq9kb => kmk_sign)) | ((with_reducible refine' kmk_upto_neg ?zq9ka ?zq9kb); (case zq9ka => l_ints); (case zq9kb => kmk_sign)))
  k_with "k ne line" => ((refine neN ?_; (try dsimp only); with_reducible first | assumption | exact Ne.symm (by assumption) | exact Nat.ne_of_lt (by assumption) | exact Nat.ne_of_gt (by assumption)))
  k_with "execs cons" => ((with_reducible refine Mine.execs_seq ?_); intro qk)
  k_dflt walk_at "pure enter"
  (k_with "for" => ((rename IsRange _ _ _ _ _ _ _ _ => hr9); (rename News _ _ _ _ => hN9); (rename Fr _ _ _ _ => hF9); (with_unfolding_all refine' grow_range (n := (ns.length + 2) / 3) [Str.ofString "three", Str.ofString "bits", Str.ofString "shift"] (fun i row => row.length ≤ 1 + 4 * ns.length ∧ LineInv ns i row) rfl hr9 ?sm ?sz hF9 hN9 ?hi ?hp ?turn ?done); (case sm => exact range_small (by omega) (by omega) (by omega) (by omega) (by omega) (by omega)); (case sz => refine range_size (by omega) ?_; split <;> omega); (case hi => exact .cons _ _ .nil); (case hp => exact LineInv.start.both); (case' turn => walk_at "grow turn"); (case' done => walk_at "grow done")))
  (k_with "call" => ((refine' use_int (uuS_c w _ _) ?k1 ?k2 ?k3 ?k4 ?k5 ?kK ?kd ?ku ?kp ?_); (case kp => trivial); walk_at "use side"; walk_at "new int"))
  (k_with "fact" => ((rename IntsAre _ (List.take 3 (_ ++ _)) => hI9); (rename (List.length _ < (ns.length + 2) / 3) => hlt9); ((rename News _ _ _ _ => hN9); revert hN9; (refine three_elim hI9 hb hlt9 ?_); clear hI9; (intro a9 b9 c9 ta9 tb9 tc9 q9 x9 y9 z9 N'))))
  (k_with "state" => (rename (_ ∧ LineInv ns _ _) => hq9; (try dsimp only); refine LineInv.turn5 hq9.2 (by assumption) (by rw [List.length_append]; rfl) (by assumption) (by assumption) (by assumption) (by assumption) (by assumption) (by assumption) (by assumption) (by assumption) (by assumption) (by assumption) (by assumption) (by assumption) (by assumption) (by assumption)))
  (repeat' (first | ((with_reducible first | refine Mine.seq_nil ?_ | refine Mine.seq_next ?_ | refine Mine.seq_ret ?_); (try dsimp only)) | (k_unfold; (try dsimp only)) | (k_end; kc_close) | walk1 | (dsimp only; walk1) | (leave1; walk_say "STEP leave1"; try dsimp only) | fail "no step"))
  refine pcall_ret hret (by assumption) ?_
  (rename News s.heap _ _ _ => hN)
  (rename (_ ∧ LineInv ns _ _) => hq)
  rw [← hq.2.done]
  simp only [List.push_toArray, List.toList_toArray] at hN
  exact newInts_of hN (List.Mem.head _) (IntsAre.append (by assumption) (.cons _ _ .nil))
end Mine
-- S3
open PySem PySem.W PyProof.Rows PySem.Calls PySem.Spec
namespace Mine
/-- a new pair (list of ints, int) is handed back -/
def NewRow (h₀ h : Heap) (r : Value) (row : List Int) (a : Int) : Prop :=
  ∃ (p : Addr) (t : Tok) (l : Addr) (vs : List Value) (n : Nat), r = .ref p ∧ h.get? p = some { cls := .type "tuple", data := .seq #[.ref l, .int a t] } ∧ h₀.get? p = none ∧ h.get? l = some (listOf vs.toArray n) ∧ h₀.get? l = none ∧ l ≠ p ∧ IntsAre vs row
theorem newRow_of {h₀ h : Heap} {L p l : Addr} {news : List (Addr × Obj)} {vs : List Value} {n : Nat} {row : List Int} {a : Int} {t : Tok} (N : News h₀ L h news) (hp : (p, ({ cls := .type "tuple", data := .seq #[.ref l, .int a t] } : Obj)) ∈ news) (hl : (l, listOf vs.toArray n) ∈ news) (hi : IntsAre vs row) : NewRow h₀ h (.ref p) row a := by
  refine ⟨p, t, l, vs, n, rfl, (N _ hp).1, (N _ hp).2.2, (N _ hl).1, (N _ hl).2.2, fun e => ?_, hi⟩
  have h1 : h.get? l = _ := (N _ hl).1
  have h2 : h.get? p = _ := (N _ hp).1
  rw [e, h2] at h1
  have h3 := congrArg Obj.cls (Option.some.inj h1)
  exact absurd h3 (by intro q; injection q with q; exact absurd q (by decide))
set_option maxHeartbeats 8000000 in
theorem uuRd_c (w : World) (l : Addr) (vs : List Value) (ns part post : List Int) (a₀ : Int) (t : Tok) (hI : IntsAre vs ns) (hlen : ns.length ≤ 1000000) (ha : 0 ≤ a₀) (hd : ns.drop a₀.toNat = uuLine part ++ post) (hp0 : 0 < part.length) (hp : part.length ≤ 63) (hb : ∀ x ∈ part, 0 ≤ x ∧ x < 256) :
    PCall w 20 158 [.ref l, .int a₀ t] (fun h => h.IsList l vs.toArray) (fun h₀ h r => NewRow h₀ h r part (a₀ + (uuLine part).length)) := by
  unfold PCall prg
  k_fill
  intro mean mg mb dp un gd cn cs aC ccd cl outer A₀ base h₀ L m s Q E hB hF hX hT hK hDp hUn hpre hret
  have hg8 := line_head ha hd
  have hg9 := hg8.1
  have hlt9 := hg8.2
  clear hg8
  have hS9 : uuS part.length = 32 + part.length := by unfold uuS; rw [if_neg (by omega)]
  refine wpAny_call ?_
  k_with_none
  k_with "op line" => (intro opX opE; (try simp only [bitAnd_m1, bitAnd_m4, bitAnd_m6, bitAnd_m7, bitAnd_m8, Int.reduceToNat, Int.reducePow] at opE))
  k_with "binaryOp BitAnd int int" => (k_here; (fail_if_success (with_reducible show wpAny _ _ (binaryOp _ (Value.int (OfNat.ofNat _) _) (Value.int (OfNat.ofNat _) _)) _ _ _)); (with_reducible refine o_and ?_); walk_at "op line")
  k_with "inplaceOp BitAnd int int" => (k_here; (fail_if_success (with_reducible show wpAny _ _ (inplaceOp _ (Value.int (OfNat.ofNat _) _) (Value.int (OfNat.ofNat _) _)) _ _ _)); (with_reducible refine o_iand ?_); walk_at "op line")
  k_with "binaryOp BitOr int int" => (k_here; (fail_if_success (with_reducible show wpAny _ _ (binaryOp _ (Value.int (OfNat.ofNat _) _) (Value.int (OfNat.ofNat _) _)) _ _ _)); (with_reducible refine o_or ?_); walk_at "op line")
  k_with "inplaceOp BitOr int int" => (k_here; (fail_if_success (with_reducible show wpAny _ _ (inplaceOp _ (Value.int (OfNat.ofNat _) _) (Value.int (OfNat.ofNat _) _)) _ _ _)); (with_reducible refine o_ior ?_); walk_at "op line")
  k_with "binaryOp RShift int int" => (k_here; (fail_if_success (with_reducible show wpAny _ _ (binaryOp _ (Value.int (OfNat.ofNat _) _) (Value.int (OfNat.ofNat _) _)) _ _ _)); (with_reducible refine o_rsh ?zq9kb1 ?_); (case zq9kb1 => l_bnd); walk_at "op line")
  k_with "inplaceOp RShift int int" => (k_here; (fail_if_success (with_reducible show wpAny _ _ (inplaceOp _ (Value.int (OfNat.ofNat _) _) (Value.int (OfNat.ofNat _) _)) _ _ _)); (with_reducible refine o_irsh ?zq9kb1 ?_); (case zq9kb1 => l_bnd); walk_at "op line")
  k_with "binaryOp LShift int int" => (k_here; (fail_if_success (with_reducible show wpAny _ _ (binaryOp _ (Value.int (OfNat.ofNat _) _) (Value.int (OfNat.ofNat _) _)) _ _ _)); (with_reducible refine o_lsh ?zq9kb1 ?zq9kb2 ?zq9kb3 ?_); (case zq9kb1 => l_bnd); (case zq9kb2 => l_bnd); (case zq9kb3 => l_bnd); walk_at "op line")
  k_with "pure enter" => (refine' code_pure ?zq9k1 ?zq9k2 ?zq9k3 ?zq9k5 ?zq9kA ?zq9kF ?zq9kK ?zq9k6 ?zq9k7 ?zq9k8 ?zq9k9 ?zq9kB ?_ ?zq9c2 ?zq9c3 ?zq9c4 ?zq9c5; (case zq9kA => exact rfl); (case zq9kF => exact rfl); (case zq9kK => assumption); (case zq9k1 => k_asm); (case zq9k2 => k_asm); (case zq9k3 => k_asm); (case zq9k5 => k_asm); (case zq9k6 => k_is); (case zq9k7 => k_is); (case zq9k8 => ktr_room); (case zq9k9 => exact BindsTo.of_eq rfl); (case zq9c5 => decide); (case zq9kB => exact locs rfl); (case zq9c2 => exact rfl); (case zq9c3 => exact rfl); (case zq9c4 => exact rfl); k_whole; intro L' h' F' N' B' X' T'; (try dsimp only); (try k_lift B'); (try k_fold))
  k_with "passes own line" => (with_reducible exact PySem.PassesOwn.leaving)
  k_with "kst facts1 line" => (first | with_reducible assumption | ((repeat (with_reducible refine IntsAre.cons _ _ ?_)); with_reducible exact IntsAre.nil) | exact IntsAre.append (by with_reducible assumption) (by with_reducible assumption) | exact IntsAre.append (by kst_facts1) (IntsAre.cons _ _ IntsAre.nil) | exact IntsAre.append (by kst_facts1) (IntsAre.cons _ _ (IntsAre.cons _ _ (IntsAre.cons _ _ IntsAre.nil))))
  k_with "sz" => ((try law_lens); (try simp only [List.size_toArray, Array.size_append, Array.size_push, Array.length_toList, List.length_append, List.length_cons, List.length_nil, List.length_reverse, List.length_map, PySem.sizeLine_eq] at *); omega)
  k_with "call builtin:list.reverse" => (k_here; (with_reducible show wpAny _ _ (call (Value.builtin _) [Value.ref _]) _ _ _); k_dflt (refine' kl_reverse ?zq9F ?zq9N ?zq9e ?zq9U ?zq9z ?_; (case zq9F => k_asm); (case zq9N => k_asm); (case zq9e => exact rfl); (case zq9U => k_upd); (case zq9z => walk_at "sz")); intro h' F' N'; (try k_sweep))
  k_with "all and" => ((repeat' (with_reducible apply And.intro)) <;> first | trivial | assumption | omega)
  k_with "exec While Compare cons nil" => (k_dflt (k_extra "while"))
  k_with "exec While BoolOp cons nil" => (k_dflt (k_extra "while"))
  k_with "exec While" => (k_dflt (k_extra "while"))
  k_with "use side" => ((case k1 => k_asm); (case k2 => k_asm); (case k3 => k_asm); (case k4 => k_asm); (case k5 => k_asm); (case kK => first | exact rfl | assumption); (case kd => ktr_room); (case ku => ktr_units))
  k_with "use new" => ((try simp only [AllNe, and_true] at l1); (try k_sweep); (try dsimp only); (try k_fold))
  k_with "is list" => first | exact trivial | assumption | exact News.isList (by k_asm) (by k_mem) | exact stays_list (Fr.keep (by k_asm)) (by assumption)
  k_with "call ref" => (k_dflt (k_extra "call"))
  k_with "exec Raise some none" => (k_dflt (exfalso; k_extra "raise"))
  k_with "for enter" => (ktd_said "for"; k_here; (rename Fr _ _ _ _ => lF'); (with_unfolding_all refine' For_invVF lF' ?zq9k1 ?zq9k2 ?_; (case zq9k1 => exact rfl); (case zq9k2 => exact rfl); k_whole))
  k_with "exec For Name Subscript cons nil" => (k_dflt (walk_at "for enter"))
  k_with "exec For Name Name cons nil" => (k_dflt (walk_at "for enter"))
  k_with "exec For Name Call cons nil" => (k_dflt (walk_at "for enter"))
  k_with "pyIter ref" => (k_dflt (k_extra "for"))
  k_with "exec Raise some none" => (k_dflt (k_extra "raise die"))
  k_with "turn enter" => (refine' code_turn ?zq9k1 ?zq9k2 ?zq9k3 ?zq9k5 ?zq9kD ?zq9kA ?zq9kF ?zq9kK ?zq9k6 ?zq9k7 ?zq9k8 ?zq9k9 ?zq9kB ?_ ?zq9c2 ?zq9c3 ?zq9c4 ?zq9c5; (case zq9kA => exact rfl); (case zq9kF => exact rfl); (case zq9kK => assumption); (case zq9k1 => k_asm); (case zq9k2 => k_asm); (case zq9k3 => k_asm); (case zq9k5 => k_asm); (case zq9kD => k_asm); (case zq9k6 => k_is); (case zq9k7 => k_is); (case zq9k8 => ktr_room); (case zq9k9 => exact BindsTo.of_eq rfl); (case zq9c5 => decide); (case zq9kB => exact locs rfl); (case zq9c2 => exact rfl); (case zq9c3 => exact rfl); (case zq9c4 => exact rfl); k_whole; intro L' h' F' N' B' X' T' D'; (try dsimp only); (try k_lift B'); (try k_fold))
  k_with "LeaveT" => (k_dflt (refine' leaveT_ ?zq9T9 ?zq9F9 ?_; (case zq9F9 => k_asm); (case zq9T9 => first | exact KtsTurn.refl | assumption)); intro tT; (try dsimp only))
  k_with "new pair" => (intro l' t' u' h' tk' F' N' l1; (try simp only [AllNe, and_true] at l1); (try k_sweep); (try dsimp only); (try k_fold))
  k_with "new ints" => (intro l' vs' n' h' tk' F' N' l1 hI'; (try simp only [AllNe, and_true] at l1); (try k_sweep); (try dsimp only); (try k_fold))
  k_with "grow turn" => (intro gVs gNs gK gPre gT gU gH gTk gI gIt gLt gCls l1 gIs gP gF gN; (try k_lt l1); have kM := kstMark; (try k_fold))
  k_with "grow done" => (intro gVs gNs gK gU gH gTk gI gP gF gN; have kM := kstMark; (try k_fold))
  k_with "eval Call" => (ktd_said "call"; k_here; k_dflt (refine Call_ ?_))
  k_with "new int" => (intro u' h' tk' F' N'; (try k_sweep); (try dsimp only); (try k_fold))
  k_with "eval BinOp" => (k_dflt (k_extra "fact"))
  k_with "new bool" => (intro h' tk' F' N'; (try k_sweep); (try dsimp only); (try k_fold))
  k_with "call builtin:list.extend" => (k_here; (with_reducible show wpAny _ _ (call (Value.builtin _) [Value.ref _, Value.ref _]) _ _ _); k_dflt (refine' my_extend ?zq9F ?zq9N ?zq9b ?zq9U ?zq9ne ?zq9z ?_; (case zq9F => k_asm); (case zq9N => k_asm); (case zq9b => k_mem); (case zq9U => k_upd); (case zq9ne => walk_at "sz"); (case zq9z => walk_at "sz")); intro h' F' N'; (try k_sweep))
  k_with "op line" => (intro opX opE; (try simp only [bitAnd_m1, bitAnd_m4, bitAnd_m6, bitAnd_m7, bitAnd_m8, Int.reduceToNat, Int.reducePow] at opE); (try k_dflt (k_extra "op")))
  k_with "call builtin:min" => ((with_reducible show wpAny _ _ (call (Value.builtin _) [Value.int _ _, Value.int _ _]) _ _ _); ktd_said "min"; (with_reducible rename News _ _ _ _ => N'); (with_unfolding_all apply min_two_N); (case hh => with_unfolding_all rfl); (case N => exact N'); (case F => assumption); clear N'; intro _ _ _ _; k_dflt (k_extra "min"))
  k_with "kmk size line" => ((refine kmk_sz (by l_ints) ?_; rw [PySem.sizeLine_eq]; omega))
  k_with "InvEndN" => (k_dflt kst_close)
  k_with "ite" => (k_here; k_closed; k_dflt (first | refine ite_pos (by decide) ?_ | refine ite_neg (by decide) ?_))
  k_with "sz" => ((simp only [List.size_toArray, Array.size_append, Array.size_push, Array.length_toList, List.length_append, List.length_cons, List.length_nil, List.length_reverse, List.length_map, PySem.sizeLine_eq]); first | omega | (law_lens; omega))
  k_with "kmk nums line" => (first | ((with_reducible refine' kmk_run ?zq9ka ?zq9kb ?zq9kc); (case zq9ka => l_ints); (case zq9kb => kmk_sign); (case zq9kc => kmk_sign)) | ((with_reducible refine' kmk_from ?zq9ka ?zq9kb); (case zq9ka => l_ints); (case zq9kb => kmk_sign)) | ((with_reducible refine' kmk_upto ?zq9ka ?zq9kb); (case zq9ka => l_ints); (case zq9kb => kmk_sign)) | ((with_reducible refine' kmk_upto_neg ?zq9ka ?zq9kb); (case zq9ka => l_ints); (case zq9kb => kmk_sign)))
  k_with "k ne line" => ((refine neN ?_; (try dsimp only); with_reducible first | assumption | exact Ne.symm (by assumption) | exact Nat.ne_of_lt (by assumption) | exact Nat.ne_of_gt (by assumption)))
  k_with "execs cons" => ((with_reducible refine Mine.execs_seq ?_); intro qk)
  k_dflt walk_at "pure enter"
  (k_with "while" => (k_while (fun _ i row => 0 ≤ i ∧ i < ns.length ∧ row.length ≤ part.length + 2 ∧ RdInv ns part post i row) (fun _ _ row => part.length + 2 - row.length) "at" "row"))
  (k_with "state" => first
    | (have hq9 := RdInv.start ha hd; have hq8 := hq9.lt; exact ⟨by omega, hq8, Nat.zero_le _, hq9⟩)
    | (rename RdInv ns part post _ _ => hR9; have hb8 := hR9.byt hb; exact hR9.turnB (by omega) (by omega) (top_a (by assumption) (by assumption) (by assumption) hb8.1 hb8.2.1 hb8.2.2) (top_b (by assumption) (by assumption) (by assumption) hb8.2.1 hb8.2.2) (top_c (by assumption) (by assumption) hb8.2.2)))
  (k_with "call" => (rename RdInv ns part post _ _ => hR9; have hr9 := hR9.signs hb (by omega); first
    | ((refine' use_int (pc_int (uuSix_c w _ _ _ _ _ hI hlen ?kc) ?ke) ?k1 ?k2 ?k3 ?k4 ?k5 ?kK ?kd ?ku ?kp ?_); (case kc => omega); (case kp => walk_at "is list"); (case ke => first | exact hr9.1.2 | exact hr9.2.1.2 | exact hr9.2.2.1.2 | exact hr9.2.2.2.2); walk_at "use side"; clear hr9; walk_at "new int")
    | ((refine' use_bool (pc_bool (isUu_c w _ _ _ _ _ hI hlen ?kc) ?ke) ?k1 ?k2 ?k3 ?k4 ?k5 ?kK ?kd ?ku ?kp ?_); (case kc => omega); (case kp => walk_at "is list"); (case ke => first | exact hr9.1.1 | exact hr9.2.1.1 | exact hr9.2.2.1.1 | exact hr9.2.2.2.1); walk_at "use side"; clear hr9; walk_at "new bool")))
  (k_with "op" => (rename (_ = Builtin.bitOr _ _) => hb9; (rename RdInv ns part post _ _ => hR9; have hba := (hR9.byt hb).1; have hbb := (hR9.byt hb).2.1; have hbc := (hR9.byt hb).2.2; first
    | (have hb7 := six1 hb9 rfl rfl hba; clear hb9)
    | (have hb7 := six2 hb9 (by first | assumption | rfl) (by assumption) rfl hba hbb; clear hb9)
    | (have hb7 := six3 hb9 (by first | assumption | rfl) (by assumption) rfl hba hbb hbc; clear hb9)
    | (have hb7 := six4 hb9 (by first | assumption | rfl) (by assumption) rfl hba hbb hbc; clear hb9)
    | fail)))
  (k_with "measure" => (simp only [List.length_append, List.length_cons, List.length_nil]; omega))
  (repeat' (first | ((with_reducible first | refine Mine.seq_nil ?_ | refine Mine.seq_next ?_ | refine Mine.seq_ret ?_); (try dsimp only)) | (k_unfold; (try dsimp only)) | (k_end; kc_close) | walk1 | (dsimp only; walk1) | (leave1; walk_say "STEP leave1"; try dsimp only) | fail "no step"))
  all_goals (rename RdInv ns part post _ _ => hR9; have hge9 := @RdInv.stop _ _ _ _ _ hR9; have hge8 := hge9 (by omega))
  · refine pcall_ret hret (by assumption) ?_
    (rename News s.heap _ _ _ => hN)
    rw [← hR9.where_ (by omega) ha hd]
    refine newRow_of hN (by k_mem) (by k_mem) (vs := _) ?_
    rw [← (hR9.done (by omega)).1]
    rename IntsAre _ (List.take (Int.toNat _) _) => hq0
    exact ints_take hq0 (by omega)
  · exact absurd hge8 (by assumption)
  · exact absurd hge8 (by assumption)
end Mine
-- S4
open PySem PySem.W PyProof.Rows PySem.Calls PySem.Spec
namespace Mine
section
variable {w : World} {d : Nat} {f : Addr} {args : List Value} {pre : Heap → Prop} {mean : ExcName → Option Value} {mg mb : Str → Option Value} {dp un : Nat} {gd : Option (List Code)} {cn : Str} {cs : Scope} {a : Addr} {ccd : Value} {cl : List (Str × Addr)} {outer : List Env} {A₀ : Around} {base h₀ : Heap} {L : Addr} {m : Str → Option Value} {s : Shared}
    {Q E : Value → Shared → Prop} {news : List (Addr × Obj)}
theorem use_row {row : List Int} {at_ : Int} (C : PCall w d f args pre (fun h₀ h r => NewRow h₀ h r row at_)) (B : Below A₀ base outer h₀) (F : Fr h₀ L s.heap m) (X : (Mine.frag w.params).In h₀) (N : News h₀ L s.heap news) (T : Top Mine.view lks mean mg mb h₀) (hk : cs.kind = .function)
    (hdp : dp + d < recursionLimit) (hun : un + 10 * d < cLine) (hp : pre s.heap)
    (ret : ∀ p t l vs n h' tk', Fr h₀ L h' m → News h₀ L h' ((p, { cls := .type "tuple", data := .seq #[.ref l, .int at_ t] }) :: (l, listOf vs.toArray n) :: news) → AllNe p ((l, listOf vs.toArray n) :: news) → AllNe l news → IntsAre vs row → Q (.ref p) { s with heap := h', toks := tk' }) :
    wpAny (model prg w) (ktrTop dp un gd cn cs L a ccd cl outer) (call (.ref f) args) Q E s :=
  C _ _ _ _ _ _ _ _ _ _ _ _ _ _ _ _ _ _ _ _ B F X T hk hdp hun hp fun r h' tk' k p => by
    obtain ⟨p, t, l, vs, n, rfl, e, e0, el, el0, hne, hi⟩ := p
    have N1 := news_add F N k el el0
    have N2 : News h₀ L h' ((p, { cls := .type "tuple", data := .seq #[.ref l, .int at_ t] }) :: (l, listOf vs.toArray n) :: news) := by
      have q := news_add F N k e e0
      intro x hx
      rcases List.mem_cons.mp hx with rfl | hx
      · exact q _ (.head _)
      · exact N1 x hx
    exact ret p t l vs n h' tk' (fr_stays F k) N2 ⟨hne, allNe_of e0 N⟩ (allNe_of el0 N) hi
end
end Mine
namespace Mine
set_option maxHeartbeats 8000000 in
theorem readUu_c (w : World) (l : Addr) (vs : List Value) (parts : List (List Int)) (t : Tok) (hI : IntsAre vs (lines parts)) (hlen : (lines parts).length ≤ 1000000) (hok : PartsOk parts) (hfl : parts.flatten.length ≤ 1000) :
    PCall w 30 165 [.ref l, .int 0 t] (fun h => h.IsList l vs.toArray) (fun h₀ h r => NewRow h₀ h r parts.flatten (lines parts).length) := by
  unfold PCall prg
  k_fill
  intro mean mg mb dp un gd cn cs aC ccd cl outer A₀ base h₀ L m s Q E hB hF hX hT hK hDp hUn hpre hret
  refine wpAny_call ?_
  k_with_none
  k_with "op line" => (intro opX opE; (try simp only [bitAnd_m1, bitAnd_m4, bitAnd_m6, bitAnd_m7, bitAnd_m8, Int.reduceToNat, Int.reducePow] at opE))
  k_with "binaryOp BitAnd int int" => (k_here; (fail_if_success (with_reducible show wpAny _ _ (binaryOp _ (Value.int (OfNat.ofNat _) _) (Value.int (OfNat.ofNat _) _)) _ _ _)); (with_reducible refine o_and ?_); walk_at "op line")
  k_with "inplaceOp BitAnd int int" => (k_here; (fail_if_success (with_reducible show wpAny _ _ (inplaceOp _ (Value.int (OfNat.ofNat _) _) (Value.int (OfNat.ofNat _) _)) _ _ _)); (with_reducible refine o_iand ?_); walk_at "op line")
  k_with "binaryOp BitOr int int" => (k_here; (fail_if_success (with_reducible show wpAny _ _ (binaryOp _ (Value.int (OfNat.ofNat _) _) (Value.int (OfNat.ofNat _) _)) _ _ _)); (with_reducible refine o_or ?_); walk_at "op line")
  k_with "inplaceOp BitOr int int" => (k_here; (fail_if_success (with_reducible show wpAny _ _ (inplaceOp _ (Value.int (OfNat.ofNat _) _) (Value.int (OfNat.ofNat _) _)) _ _ _)); (with_reducible refine o_ior ?_); walk_at "op line")
  k_with "binaryOp RShift int int" => (k_here; (fail_if_success (with_reducible show wpAny _ _ (binaryOp _ (Value.int (OfNat.ofNat _) _) (Value.int (OfNat.ofNat _) _)) _ _ _)); (with_reducible refine o_rsh ?zq9kb1 ?_); (case zq9kb1 => l_bnd); walk_at "op line")
  k_with "inplaceOp RShift int int" => (k_here; (fail_if_success (with_reducible show wpAny _ _ (inplaceOp _ (Value.int (OfNat.ofNat _) _) (Value.int (OfNat.ofNat _) _)) _ _ _)); (with_reducible refine o_irsh ?zq9kb1 ?_); (case zq9kb1 => l_bnd); walk_at "op line")
  k_with "binaryOp LShift int int" => (k_here; (fail_if_success (with_reducible show wpAny _ _ (binaryOp _ (Value.int (OfNat.ofNat _) _) (Value.int (OfNat.ofNat _) _)) _ _ _)); (with_reducible refine o_lsh ?zq9kb1 ?zq9kb2 ?zq9kb3 ?_); (case zq9kb1 => l_bnd); (case zq9kb2 => l_bnd); (case zq9kb3 => l_bnd); walk_at "op line")
  k_with "pure enter" => (refine' code_pure ?zq9k1 ?zq9k2 ?zq9k3 ?zq9k5 ?zq9kA ?zq9kF ?zq9kK ?zq9k6 ?zq9k7 ?zq9k8 ?zq9k9 ?zq9kB ?_ ?zq9c2 ?zq9c3 ?zq9c4 ?zq9c5; (case zq9kA => exact rfl); (case zq9kF => exact rfl); (case zq9kK => assumption); (case zq9k1 => k_asm); (case zq9k2 => k_asm); (case zq9k3 => k_asm); (case zq9k5 => k_asm); (case zq9k6 => k_is); (case zq9k7 => k_is); (case zq9k8 => ktr_room); (case zq9k9 => exact BindsTo.of_eq rfl); (case zq9c5 => decide); (case zq9kB => exact locs rfl); (case zq9c2 => exact rfl); (case zq9c3 => exact rfl); (case zq9c4 => exact rfl); k_whole; intro L' h' F' N' B' X' T'; (try dsimp only); (try k_lift B'); (try k_fold))
  k_with "passes own line" => (with_reducible exact PySem.PassesOwn.leaving)
  k_with "kst facts1 line" => (first | with_reducible assumption | ((repeat (with_reducible refine IntsAre.cons _ _ ?_)); with_reducible exact IntsAre.nil) | exact IntsAre.append (by with_reducible assumption) (by with_reducible assumption) | exact IntsAre.append (by kst_facts1) (IntsAre.cons _ _ IntsAre.nil) | exact IntsAre.append (by kst_facts1) (IntsAre.cons _ _ (IntsAre.cons _ _ (IntsAre.cons _ _ IntsAre.nil))))
  k_with "sz" => ((try law_lens); (try simp only [List.size_toArray, Array.size_append, Array.size_push, Array.length_toList, List.length_append, List.length_cons, List.length_nil, List.length_reverse, List.length_map, PySem.sizeLine_eq] at *); omega)
  k_with "call builtin:list.reverse" => (k_here; (with_reducible show wpAny _ _ (call (Value.builtin _) [Value.ref _]) _ _ _); k_dflt (refine' kl_reverse ?zq9F ?zq9N ?zq9e ?zq9U ?zq9z ?_; (case zq9F => k_asm); (case zq9N => k_asm); (case zq9e => exact rfl); (case zq9U => k_upd); (case zq9z => walk_at "sz")); intro h' F' N'; (try k_sweep))
  k_with "all and" => ((repeat' (with_reducible apply And.intro)) <;> first | trivial | assumption | omega)
  k_with "exec While Compare cons nil" => (k_dflt (k_extra "while"))
  k_with "exec While BoolOp cons nil" => (k_dflt (k_extra "while"))
  k_with "exec While" => (k_dflt (k_extra "while"))
  k_with "use side" => ((case k1 => k_asm); (case k2 => k_asm); (case k3 => k_asm); (case k4 => k_asm); (case k5 => k_asm); (case kK => first | exact rfl | assumption); (case kd => ktr_room); (case ku => ktr_units))
  k_with "use new" => ((try simp only [AllNe, and_true] at l1); (try k_sweep); (try dsimp only); (try k_fold))
  k_with "is list" => first | exact trivial | assumption | exact News.isList (by k_asm) (by k_mem) | exact stays_list (Fr.keep (by k_asm)) (by assumption)
  k_with "call ref" => (k_dflt (k_extra "call"))
  k_with "exec Raise some none" => (k_dflt (exfalso; k_extra "raise"))
  k_with "for enter" => (ktd_said "for"; k_here; (rename Fr _ _ _ _ => lF'); (with_unfolding_all refine' For_invVF lF' ?zq9k1 ?zq9k2 ?_; (case zq9k1 => exact rfl); (case zq9k2 => exact rfl); k_whole))
  k_with "exec For Name Subscript cons nil" => (k_dflt (walk_at "for enter"))
  k_with "exec For Name Name cons nil" => (k_dflt (walk_at "for enter"))
  k_with "exec For Name Call cons nil" => (k_dflt (walk_at "for enter"))
  k_with "pyIter ref" => (k_dflt (k_extra "for"))
  k_with "exec Raise some none" => (k_dflt (k_extra "raise die"))
  k_with "turn enter" => (refine' code_turn ?zq9k1 ?zq9k2 ?zq9k3 ?zq9k5 ?zq9kD ?zq9kA ?zq9kF ?zq9kK ?zq9k6 ?zq9k7 ?zq9k8 ?zq9k9 ?zq9kB ?_ ?zq9c2 ?zq9c3 ?zq9c4 ?zq9c5; (case zq9kA => exact rfl); (case zq9kF => exact rfl); (case zq9kK => assumption); (case zq9k1 => k_asm); (case zq9k2 => k_asm); (case zq9k3 => k_asm); (case zq9k5 => k_asm); (case zq9kD => k_asm); (case zq9k6 => k_is); (case zq9k7 => k_is); (case zq9k8 => ktr_room); (case zq9k9 => exact BindsTo.of_eq rfl); (case zq9c5 => decide); (case zq9kB => exact locs rfl); (case zq9c2 => exact rfl); (case zq9c3 => exact rfl); (case zq9c4 => exact rfl); k_whole; intro L' h' F' N' B' X' T' D'; (try dsimp only); (try k_lift B'); (try k_fold))
  k_with "LeaveT" => (k_dflt (refine' leaveT_ ?zq9T9 ?zq9F9 ?_; (case zq9F9 => k_asm); (case zq9T9 => first | exact KtsTurn.refl | assumption)); intro tT; (try dsimp only))
  k_with "new pair" => (intro l' t' u' h' tk' F' N' l1; (try simp only [AllNe, and_true] at l1); (try k_sweep); (try dsimp only); (try k_fold))
  k_with "new ints" => (intro l' vs' n' h' tk' F' N' l1 hI'; (try simp only [AllNe, and_true] at l1); (try k_sweep); (try dsimp only); (try k_fold))
  k_with "grow turn" => (intro gVs gNs gK gPre gT gU gH gTk gI gIt gLt gCls l1 gIs gP gF gN; (try k_lt l1); have kM := kstMark; (try k_fold))
  k_with "grow done" => (intro gVs gNs gK gU gH gTk gI gP gF gN; have kM := kstMark; (try k_fold))
  k_with "eval Call" => (ktd_said "call"; k_here; k_dflt (refine Call_ ?_))
  k_with "new int" => (intro u' h' tk' F' N'; (try k_sweep); (try dsimp only); (try k_fold))
  k_with "eval BinOp" => (k_dflt (k_extra "fact"))
  k_with "new bool" => (intro h' tk' F' N'; (try k_sweep); (try dsimp only); (try k_fold))
  k_with "call builtin:list.extend" => (k_here; (with_reducible show wpAny _ _ (call (Value.builtin _) [Value.ref _, Value.ref _]) _ _ _); k_dflt (refine' my_extend ?zq9F ?zq9N ?zq9b ?zq9U ?zq9ne ?zq9z ?_; (case zq9F => k_asm); (case zq9N => k_asm); (case zq9b => k_mem); (case zq9U => k_upd); (case zq9ne => walk_at "sz"); (case zq9z => walk_at "sz")); intro h' F' N'; (try k_sweep))
  k_with "op line" => (intro opX opE; (try simp only [bitAnd_m1, bitAnd_m4, bitAnd_m6, bitAnd_m7, bitAnd_m8, Int.reduceToNat, Int.reducePow] at opE); (try k_dflt (k_extra "op")))
  k_with "call builtin:min" => ((with_reducible show wpAny _ _ (call (Value.builtin _) [Value.int _ _, Value.int _ _]) _ _ _); ktd_said "min"; (with_reducible rename News _ _ _ _ => N'); (with_unfolding_all apply min_two_N); (case hh => with_unfolding_all rfl); (case N => exact N'); (case F => assumption); clear N'; intro _ _ _ _; k_dflt (k_extra "min"))
  k_with "kmk size line" => ((refine kmk_sz (by l_ints) ?_; rw [PySem.sizeLine_eq]; omega))
  k_with "InvEndN" => (k_dflt kst_close)
  k_with "ite" => (k_here; k_closed; k_dflt (first | refine ite_pos (by decide) ?_ | refine ite_neg (by decide) ?_))
  k_with "sz" => ((simp only [List.size_toArray, Array.size_append, Array.size_push, Array.length_toList, List.length_append, List.length_cons, List.length_nil, List.length_reverse, List.length_map, PySem.sizeLine_eq]); first | omega | (law_lens; omega))
  k_with "kmk nums line" => (first | ((with_reducible refine' kmk_run ?zq9ka ?zq9kb ?zq9kc); (case zq9ka => l_ints); (case zq9kb => kmk_sign); (case zq9kc => kmk_sign)) | ((with_reducible refine' kmk_from ?zq9ka ?zq9kb); (case zq9ka => l_ints); (case zq9kb => kmk_sign)) | ((with_reducible refine' kmk_upto ?zq9ka ?zq9kb); (case zq9ka => l_ints); (case zq9kb => kmk_sign)) | ((with_reducible refine' kmk_upto_neg ?zq9ka ?zq9kb); (case zq9ka => l_ints); (case zq9kb => kmk_sign)))
  k_with "k ne line" => ((refine neN ?_; (try dsimp only); with_reducible first | assumption | exact Ne.symm (by assumption) | exact Nat.ne_of_lt (by assumption) | exact Nat.ne_of_gt (by assumption)))
  k_with "execs cons" => ((with_reducible refine Mine.execs_seq ?_); intro qk)
  k_with "new row" => (intro p' t' l' vs' n' h' tk' F' N' l1 l2 hI'; (try simp only [AllNe, and_true] at l1 l2); (try k_sweep); (try dsimp only); (try k_fold))
  k_dflt walk_at "pure enter"
  (k_with "while" => (k_while (fun _ i row => 0 ≤ i ∧ i ≤ (lines parts).length ∧ row.length ≤ parts.flatten.length ∧ PartInv parts i row) (fun _ i _ => ((lines parts).length - i).toNat) "at" "row"))
  (k_with "state" => first
    | (exact (PartInv.start (parts := parts)).bounds)
    | (rename PartInv parts (_ + _) _ => hq9; exact hq9.bounds))
  (k_with "call" => (rename PartInv parts _ _ => hR9; first
    | ((refine' use_bool (isUu_c w _ _ _ _ _ hI hlen ?kc) ?k1 ?k2 ?k3 ?k4 ?k5 ?kK ?kd ?ku ?kp ?_); (case kc => omega); (case kp => walk_at "is list"); walk_at "use side"; walk_at "new bool"; generalize hu9 : isU (lines parts) _ = b9; cases b9; (case' true => (obtain ⟨p9, post9, ⟨hp1, hp2, hp3⟩, hd9, hg9, hl9, -⟩ := hR9.head hok hu9)))
    | ((rename isU (lines parts) _ = true => hu8); (obtain ⟨p9, post9, ⟨hp1, hp2, hp3⟩, hd9, hg9, hl9, hnx9⟩ := hR9.head hok hu8); have hl8 := uuLine_len p9; (refine' use_row (uuRd_c w _ _ _ _ _ _ _ hI hlen ?kc hd9 hp1 hp2 hp3) ?k1 ?k2 ?k3 ?k4 ?k5 ?kK ?kd ?ku ?kp ?_); (case kc => omega); (case kp => walk_at "is list"); walk_at "use side"; walk_at "new row")))
  (k_with "measure" => (omega))
  (repeat' (first | ((with_reducible first | refine Mine.seq_nil ?_ | refine Mine.seq_next ?_ | refine Mine.seq_ret ?_); (try dsimp only)) | (k_unfold; (try dsimp only)) | (k_end; kc_close) | walk1 | (dsimp only; walk1) | (leave1; walk_say "STEP leave1"; try dsimp only) | fail "no step"))
  all_goals first | (exfalso; omega) | skip
  refine pcall_ret hret (by assumption) ?_
  (rename News s.heap _ _ _ => hN)
  (rename PartInv parts _ _ => hR9)
  (rename isU (lines parts) _ = false => hu8)
  obtain ⟨e1, e2⟩ := hR9.done hok hu8
  rw [← e1, ← e2]
  exact newRow_of hN (by k_mem) (by k_mem) (by assumption)
end Mine
-- S5
open PySem PySem.W PyProof.Rows PySem.Calls PySem.Spec
namespace Mine
set_option maxHeartbeats 8000000 in
theorem uuRow_c (w : World) (l : Addr) (vs : List Value) (ns : List Int) (c : Int) (t : Tok) (hI : IntsAre vs ns) (hlen : ns.length ≤ 100) (hb : ∀ x ∈ ns, 0 ≤ x ∧ x < 256) (hc : 0 ≤ c) (hc2 : c < 13) :
    PCall w 20 137 [.ref l, .int c t] (fun h => h.IsList l vs.toArray) (fun h₀ h r => NewInts h₀ h r (uuRows (wideOf c) ns)) := by
  unfold PCall prg
  k_fill
  intro mean mg mb dp un gd cn cs aC ccd cl outer A₀ base h₀ L m s Q E hB hF hX hT hK hDp hUn hpre hret
  have hW9 := wide_bounds hc hc2
  refine wpAny_call ?_
  k_with_none
  k_with "op line" => (intro opX opE; (try simp only [bitAnd_m1, bitAnd_m4, bitAnd_m6, bitAnd_m7, bitAnd_m8, Int.reduceToNat, Int.reducePow] at opE))
  k_with "binaryOp BitAnd int int" => (k_here; (fail_if_success (with_reducible show wpAny _ _ (binaryOp _ (Value.int (OfNat.ofNat _) _) (Value.int (OfNat.ofNat _) _)) _ _ _)); (with_reducible refine o_and ?_); walk_at "op line")
  k_with "inplaceOp BitAnd int int" => (k_here; (fail_if_success (with_reducible show wpAny _ _ (inplaceOp _ (Value.int (OfNat.ofNat _) _) (Value.int (OfNat.ofNat _) _)) _ _ _)); (with_reducible refine o_iand ?_); walk_at "op line")
  k_with "binaryOp BitOr int int" => (k_here; (fail_if_success (with_reducible show wpAny _ _ (binaryOp _ (Value.int (OfNat.ofNat _) _) (Value.int (OfNat.ofNat _) _)) _ _ _)); (with_reducible refine o_or ?_); walk_at "op line")
  k_with "inplaceOp BitOr int int" => (k_here; (fail_if_success (with_reducible show wpAny _ _ (inplaceOp _ (Value.int (OfNat.ofNat _) _) (Value.int (OfNat.ofNat _) _)) _ _ _)); (with_reducible refine o_ior ?_); walk_at "op line")
  k_with "binaryOp RShift int int" => (k_here; (fail_if_success (with_reducible show wpAny _ _ (binaryOp _ (Value.int (OfNat.ofNat _) _) (Value.int (OfNat.ofNat _) _)) _ _ _)); (with_reducible refine o_rsh ?zq9kb1 ?_); (case zq9kb1 => l_bnd); walk_at "op line")
  k_with "inplaceOp RShift int int" => (k_here; (fail_if_success (with_reducible show wpAny _ _ (inplaceOp _ (Value.int (OfNat.ofNat _) _) (Value.int (OfNat.ofNat _) _)) _ _ _)); (with_reducible refine o_irsh ?zq9kb1 ?_); (case zq9kb1 => l_bnd); walk_at "op line")
  k_with "binaryOp LShift int int" => (k_here; (fail_if_success (with_reducible show wpAny _ _ (binaryOp _ (Value.int (OfNat.ofNat _) _) (Value.int (OfNat.ofNat _) _)) _ _ _)); (with_reducible refine o_lsh ?zq9kb1 ?zq9kb2 ?zq9kb3 ?_); (case zq9kb1 => l_bnd); (case zq9kb2 => l_bnd); (case zq9kb3 => l_bnd); walk_at "op line")
  k_with "pure enter" => (refine' code_pure ?zq9k1 ?zq9k2 ?zq9k3 ?zq9k5 ?zq9kA ?zq9kF ?zq9kK ?zq9k6 ?zq9k7 ?zq9k8 ?zq9k9 ?zq9kB ?_ ?zq9c2 ?zq9c3 ?zq9c4 ?zq9c5; (case zq9kA => exact rfl); (case zq9kF => exact rfl); (case zq9kK => assumption); (case zq9k1 => k_asm); (case zq9k2 => k_asm); (case zq9k3 => k_asm); (case zq9k5 => k_asm); (case zq9k6 => k_is); (case zq9k7 => k_is); (case zq9k8 => ktr_room); (case zq9k9 => exact BindsTo.of_eq rfl); (case zq9c5 => decide); (case zq9kB => exact locs rfl); (case zq9c2 => exact rfl); (case zq9c3 => exact rfl); (case zq9c4 => exact rfl); k_whole; intro L' h' F' N' B' X' T'; (try dsimp only); (try k_lift B'); (try k_fold))
  k_with "passes own line" => (with_reducible exact PySem.PassesOwn.leaving)
  k_with "kst facts1 line" => (first | with_reducible assumption | ((repeat (with_reducible refine IntsAre.cons _ _ ?_)); with_reducible exact IntsAre.nil) | exact IntsAre.append (by with_reducible assumption) (by with_reducible assumption) | exact IntsAre.append (by kst_facts1) (IntsAre.cons _ _ IntsAre.nil) | exact IntsAre.append (by kst_facts1) (IntsAre.cons _ _ (IntsAre.cons _ _ (IntsAre.cons _ _ IntsAre.nil))))
  k_with "sz" => ((try law_lens); (try simp only [List.size_toArray, Array.size_append, Array.size_push, Array.length_toList, List.length_append, List.length_cons, List.length_nil, List.length_reverse, List.length_map, PySem.sizeLine_eq] at *); omega)
  k_with "call builtin:list.reverse" => (k_here; (with_reducible show wpAny _ _ (call (Value.builtin _) [Value.ref _]) _ _ _); k_dflt (refine' kl_reverse ?zq9F ?zq9N ?zq9e ?zq9U ?zq9z ?_; (case zq9F => k_asm); (case zq9N => k_asm); (case zq9e => exact rfl); (case zq9U => k_upd); (case zq9z => walk_at "sz")); intro h' F' N'; (try k_sweep))
  k_with "all and" => ((repeat' (with_reducible apply And.intro)) <;> first | trivial | assumption | omega)
  k_with "exec While Compare cons nil" => (k_dflt (k_extra "while"))
  k_with "exec While BoolOp cons nil" => (k_dflt (k_extra "while"))
  k_with "exec While" => (k_dflt (k_extra "while"))
  k_with "use side" => ((case k1 => k_asm); (case k2 => k_asm); (case k3 => k_asm); (case k4 => k_asm); (case k5 => k_asm); (case kK => first | exact rfl | assumption); (case kd => ktr_room); (case ku => ktr_units))
  k_with "use new" => ((try simp only [AllNe, and_true] at l1); (try k_sweep); (try dsimp only); (try k_fold))
  k_with "is list" => first | exact trivial | assumption | exact News.isList (by k_asm) (by k_mem) | exact stays_list (Fr.keep (by k_asm)) (by assumption)
  k_with "call ref" => (k_dflt (k_extra "call"))
  k_with "exec Raise some none" => (k_dflt (exfalso; k_extra "raise"))
  k_with "for enter" => (ktd_said "for"; k_here; (rename Fr _ _ _ _ => lF'); (with_unfolding_all refine' For_invVF lF' ?zq9k1 ?zq9k2 ?_; (case zq9k1 => exact rfl); (case zq9k2 => exact rfl); k_whole))
  k_with "exec For Name Subscript cons nil" => (k_dflt (walk_at "for enter"))
  k_with "exec For Name Name cons nil" => (k_dflt (walk_at "for enter"))
  k_with "exec For Name Call cons nil" => (k_dflt (walk_at "for enter"))
  k_with "pyIter ref" => (k_dflt (k_extra "for"))
  k_with "exec Raise some none" => (k_dflt (k_extra "raise die"))
  k_with "turn enter" => (refine' code_turn ?zq9k1 ?zq9k2 ?zq9k3 ?zq9k5 ?zq9kD ?zq9kA ?zq9kF ?zq9kK ?zq9k6 ?zq9k7 ?zq9k8 ?zq9k9 ?zq9kB ?_ ?zq9c2 ?zq9c3 ?zq9c4 ?zq9c5; (case zq9kA => exact rfl); (case zq9kF => exact rfl); (case zq9kK => assumption); (case zq9k1 => k_asm); (case zq9k2 => k_asm); (case zq9k3 => k_asm); (case zq9k5 => k_asm); (case zq9kD => k_asm); (case zq9k6 => k_is); (case zq9k7 => k_is); (case zq9k8 => ktr_room); (case zq9k9 => exact BindsTo.of_eq rfl); (case zq9c5 => decide); (case zq9kB => exact locs rfl); (case zq9c2 => exact rfl); (case zq9c3 => exact rfl); (case zq9c4 => exact rfl); k_whole; intro L' h' F' N' B' X' T' D'; (try dsimp only); (try k_lift B'); (try k_fold))
  k_with "LeaveT" => (k_dflt (refine' leaveT_ ?zq9T9 ?zq9F9 ?_; (case zq9F9 => k_asm); (case zq9T9 => first | exact KtsTurn.refl | assumption)); intro tT; (try dsimp only))
  k_with "new pair" => (intro l' t' u' h' tk' F' N' l1; (try simp only [AllNe, and_true] at l1); (try k_sweep); (try dsimp only); (try k_fold))
  k_with "new ints" => (intro l' vs' n' h' tk' F' N' l1 hI'; (try simp only [AllNe, and_true] at l1); (try k_sweep); (try dsimp only); (try k_fold))
  k_with "grow turn" => (intro gVs gNs gK gPre gT gU gH gTk gI gIt gLt gCls l1 gIs gP gF gN; (try k_lt l1); have kM := kstMark; (try k_fold))
  k_with "grow done" => (intro gVs gNs gK gU gH gTk gI gP gF gN; have kM := kstMark; (try k_fold))
  k_with "eval Call" => (ktd_said "call"; k_here; k_dflt (refine Call_ ?_))
  k_with "new int" => (intro u' h' tk' F' N'; (try k_sweep); (try dsimp only); (try k_fold))
  k_with "eval BinOp" => (k_dflt (k_extra "fact"))
  k_with "new bool" => (intro h' tk' F' N'; (try k_sweep); (try dsimp only); (try k_fold))
  k_with "call builtin:list.extend" => (k_here; (with_reducible show wpAny _ _ (call (Value.builtin _) [Value.ref _, Value.ref _]) _ _ _); k_dflt (refine' my_extend ?zq9F ?zq9N ?zq9b ?zq9U ?zq9ne ?zq9z ?_; (case zq9F => k_asm); (case zq9N => k_asm); (case zq9b => k_mem); (case zq9U => k_upd); (case zq9ne => walk_at "sz"); (case zq9z => walk_at "sz")); intro h' F' N'; (try k_sweep))
  k_with "op line" => (intro opX opE; (try simp only [bitAnd_m1, bitAnd_m4, bitAnd_m6, bitAnd_m7, bitAnd_m8, Int.reduceToNat, Int.reducePow] at opE); (try k_dflt (k_extra "op")))
  k_with "call builtin:min" => ((with_reducible show wpAny _ _ (call (Value.builtin _) [Value.int _ _, Value.int _ _]) _ _ _); ktd_said "min"; (with_reducible rename News _ _ _ _ => N'); (with_unfolding_all apply min_two_N); (case hh => with_unfolding_all rfl); (case N => exact N'); (case F => assumption); clear N'; intro _ _ _ _; k_dflt (k_extra "min"))
  k_with "kmk size line" => ((refine kmk_sz (by l_ints) ?_; rw [PySem.sizeLine_eq]; omega))
  k_with "InvEndN" => (k_dflt kst_close)
  k_with "ite" => (k_here; k_closed; k_dflt (first | refine ite_pos (by decide) ?_ | refine ite_neg (by decide) ?_))
  k_with "sz" => ((simp only [List.size_toArray, Array.size_append, Array.size_push, Array.length_toList, List.length_append, List.length_cons, List.length_nil, List.length_reverse, List.length_map, PySem.sizeLine_eq]); first | omega | (law_lens; omega))
  k_with "kmk nums line" => (first | ((with_reducible refine' kmk_run ?zq9ka ?zq9kb ?zq9kc); (case zq9ka => l_ints); (case zq9kb => kmk_sign); (case zq9kc => kmk_sign)) | ((with_reducible refine' kmk_from ?zq9ka ?zq9kb); (case zq9ka => l_ints); (case zq9kb => kmk_sign)) | ((with_reducible refine' kmk_upto ?zq9ka ?zq9kb); (case zq9ka => l_ints); (case zq9kb => kmk_sign)) | ((with_reducible refine' kmk_upto_neg ?zq9ka ?zq9kb); (case zq9ka => l_ints); (case zq9kb => kmk_sign)))
  k_with "k ne line" => ((refine neN ?_; (try dsimp only); with_reducible first | assumption | exact Ne.symm (by assumption) | exact Nat.ne_of_lt (by assumption) | exact Nat.ne_of_gt (by assumption)))
  k_with "execs cons" => ((with_reducible refine Mine.execs_seq ?_); intro qk)
  k_dflt walk_at "pure enter"
  (k_with "for" => ((rename IsRange _ _ _ _ _ _ _ _ => hr9); (rename News _ _ _ _ => hN9); (rename Fr _ _ _ _ => hF9); (first | (have hW8 := wide_lo (by assumption); rw [hW8] at hr9) | skip); (with_unfolding_all refine' grow_range (ns₀ := []) (n := (ns.length + (wideOf c - 1)) / wideOf c) [] (fun i row => RowInv (wideOf c) ns i row) rfl hr9 ?_ ?_ hF9 hN9 ?_ ?_ ?_ ?_); (exact range_small (by omega) (by omega) (by omega) (by omega) (by omega) (by omega)); (exact range_size (by omega) (rows_count (by omega))); (exact .nil); (exact RowInv.start); rotate_left; (walk_at "grow done"); rotate_right; (walk_at "grow turn")))
  (k_with "min" => (rw [if_neg (wide_ite hc hc2), if_neg (wide_ite hc hc2), wide_hi (c := c) (by assumption)]))
  (k_with "fact" => ((rename (List.length _ < _ / wideOf c) => hlt9); (fail_if_success (rename ((0 : Int) ≤ _ * (wideOf c : Int) ∧ _) => hpos9)); (have hpos9 := rows_pos (by omega) hlt9)))
  (k_with "call" => ((rename (List.length _ < _ / wideOf c) => hlt9); (have hfew9 := rows_few (by omega) hlt9 hlen); (rename RowInv _ _ _ _ => hR9); (have hR8 := hR9.len); (rename IntsAre _ (List.take _ _) => hI9); (first | rw [chunk_at rfl (wide_lo (by assumption))] at hI9 | rw [chunk_at rfl (wide_hi (c := c) (by assumption))] at hI9 | rw [chunk_at rfl rfl] at hI9); (refine' use_ints (uuLine_c w _ _ _ hI9 ?c1 ?c2) ?k1 ?k2 ?k3 ?k4 ?k5 ?kK ?kd ?ku ?kp ?_); (case c1 => exact Nat.le_trans chunk_len (by omega)); (case c2 => exact fun x hx => hb x (List.mem_of_mem_drop (List.mem_of_mem_take hx))); (case kp => walk_at "is list"); walk_at "use side"; walk_at "new ints"; (rename IntsAre _ (uuLine _) => hI7); (have hI6 := uu_lens hI7 (Nat.le_trans chunk_len (by omega)))))
  (k_with "state" => (rename RowInv _ _ _ _ => hR9; exact hR9.turn (by omega) (by rw [List.length_append]; rfl)))
  (repeat' (first | ((with_reducible first | refine Mine.seq_nil ?_ | refine Mine.seq_next ?_ | refine Mine.seq_ret ?_); (try dsimp only)) | (k_unfold; (try dsimp only)) | (k_end; kc_close) | walk1 | (dsimp only; walk1) | (leave1; walk_say "STEP leave1"; try dsimp only) | fail "no step"))
  all_goals (refine pcall_ret hret (by assumption) ?_; (rename News s.heap _ _ _ => hN); (rename RowInv _ _ _ _ => hR9); have e := hR9.val; refine newInts_of hN (List.Mem.head _) ?_; unfold uuRows; rw [← e]; assumption)
end Mine
-- Q1
open PySem PySem.W PyProof.Rows PySem.Calls PySem.Spec
namespace Mine
noncomputable def bitSign (ns : List Int) (k : Int) : Str := Txt.item (Str.ofString "01") (ns.getD (k.fdiv 8).toNat 0 / 2 ^ (7 - k.fmod 8).toNat % 2)
theorem bits_turn {ns pre : List Int} {ss : List Str} {k o1 o2 : Int} (h : ss.length = pre.length ∧ ss = pre.map (bitSign ns)) (e1 : o1 = ns.getD (k.fdiv 8).toNat 0 / 2 ^ (7 - k.fmod 8).toNat) (e2 : o2 = o1 % 2) :
    (ss ++ [Txt.item (Str.ofString "01") o2]).length = (pre ++ [k]).length ∧ ss ++ [Txt.item (Str.ofString "01") o2] = (pre ++ [k]).map (bitSign ns) := by
  obtain ⟨_, rfl⟩ := h
  subst e1 e2
  simp [bitSign]
def NewText (r : Value) (x : Str) : Prop := ∃ t, r = .str x t
noncomputable def bitText (ns : List Int) (c : Int) : List Str := (rangeKs 0 (c - 0).toNat).map (bitSign ns)
set_option maxHeartbeats 8000000 in
theorem bitsOf_c (w : World) (l : Addr) (vs : List Value) (ns : List Int) (c : Int) (t : Tok) (hI : IntsAre vs ns) (hlen : ns.length ≤ 4) (hc : c = 8 * (ns.length : Int)) (hS : ((bitText ns c).map (·.length)).sum + (bitText ns c).length * (Str.ofString "").length ≤ 16777216) :
    PCall w 10 95 [.ref l, .int c t, .bool true] (fun h => h.IsList l vs.toArray) (fun _ _ r => NewText r (Txt.join (Str.ofString "") (bitText ns c))) := by
  unfold PCall prg
  k_fill
  intro mean mg mb dp un gd cn cs aC ccd cl outer A₀ base h₀ L m s Q E hB hF hX hT hK hDp hUn hpre hret
  refine wpAny_call ?_
  k_with_none
  k_with "op line" => (intro opX opE; (try simp only [bitAnd_m1, bitAnd_m4, bitAnd_m6, bitAnd_m7, bitAnd_m8, Int.reduceToNat, Int.reducePow] at opE))
  k_with "binaryOp BitAnd int int" => (k_here; (fail_if_success (with_reducible show wpAny _ _ (binaryOp _ (Value.int (OfNat.ofNat _) _) (Value.int (OfNat.ofNat _) _)) _ _ _)); (with_reducible refine o_and ?_); walk_at "op line")
  k_with "inplaceOp BitAnd int int" => (k_here; (fail_if_success (with_reducible show wpAny _ _ (inplaceOp _ (Value.int (OfNat.ofNat _) _) (Value.int (OfNat.ofNat _) _)) _ _ _)); (with_reducible refine o_iand ?_); walk_at "op line")
  k_with "binaryOp BitOr int int" => (k_here; (fail_if_success (with_reducible show wpAny _ _ (binaryOp _ (Value.int (OfNat.ofNat _) _) (Value.int (OfNat.ofNat _) _)) _ _ _)); (with_reducible refine o_or ?_); walk_at "op line")
  k_with "inplaceOp BitOr int int" => (k_here; (fail_if_success (with_reducible show wpAny _ _ (inplaceOp _ (Value.int (OfNat.ofNat _) _) (Value.int (OfNat.ofNat _) _)) _ _ _)); (with_reducible refine o_ior ?_); walk_at "op line")
  k_with "binaryOp RShift int int" => (k_here; (fail_if_success (with_reducible show wpAny _ _ (binaryOp _ (Value.int (OfNat.ofNat _) _) (Value.int (OfNat.ofNat _) _)) _ _ _)); (with_reducible refine o_rsh ?zq9kb1 ?_); (case zq9kb1 => l_bnd); walk_at "op line")
  k_with "inplaceOp RShift int int" => (k_here; (fail_if_success (with_reducible show wpAny _ _ (inplaceOp _ (Value.int (OfNat.ofNat _) _) (Value.int (OfNat.ofNat _) _)) _ _ _)); (with_reducible refine o_irsh ?zq9kb1 ?_); (case zq9kb1 => l_bnd); walk_at "op line")
  k_with "binaryOp LShift int int" => (k_here; (fail_if_success (with_reducible show wpAny _ _ (binaryOp _ (Value.int (OfNat.ofNat _) _) (Value.int (OfNat.ofNat _) _)) _ _ _)); (with_reducible refine o_lsh ?zq9kb1 ?zq9kb2 ?zq9kb3 ?_); (case zq9kb1 => l_bnd); (case zq9kb2 => l_bnd); (case zq9kb3 => l_bnd); walk_at "op line")
  k_with "pure enter" => (refine' code_pure ?zq9k1 ?zq9k2 ?zq9k3 ?zq9k5 ?zq9kA ?zq9kF ?zq9kK ?zq9k6 ?zq9k7 ?zq9k8 ?zq9k9 ?zq9kB ?_ ?zq9c2 ?zq9c3 ?zq9c4 ?zq9c5; (case zq9kA => exact rfl); (case zq9kF => exact rfl); (case zq9kK => assumption); (case zq9k1 => k_asm); (case zq9k2 => k_asm); (case zq9k3 => k_asm); (case zq9k5 => k_asm); (case zq9k6 => k_is); (case zq9k7 => k_is); (case zq9k8 => ktr_room); (case zq9k9 => exact BindsTo.of_eq rfl); (case zq9c5 => decide); (case zq9kB => exact locs rfl); (case zq9c2 => exact rfl); (case zq9c3 => exact rfl); (case zq9c4 => exact rfl); k_whole; intro L' h' F' N' B' X' T'; (try dsimp only); (try k_lift B'); (try k_fold))
  k_with "passes own line" => (with_reducible exact PySem.PassesOwn.leaving)
  k_with "kst facts1 line" => (first | with_reducible assumption | ((repeat (with_reducible refine IntsAre.cons _ _ ?_)); with_reducible exact IntsAre.nil) | exact IntsAre.append (by with_reducible assumption) (by with_reducible assumption) | exact IntsAre.append (by kst_facts1) (IntsAre.cons _ _ IntsAre.nil) | exact IntsAre.append (by kst_facts1) (IntsAre.cons _ _ (IntsAre.cons _ _ (IntsAre.cons _ _ IntsAre.nil))))
  k_with "sz" => ((try law_lens); (try simp only [List.size_toArray, Array.size_append, Array.size_push, Array.length_toList, List.length_append, List.length_cons, List.length_nil, List.length_reverse, List.length_map, PySem.sizeLine_eq] at *); omega)
  k_with "call builtin:list.reverse" => (k_here; (with_reducible show wpAny _ _ (call (Value.builtin _) [Value.ref _]) _ _ _); k_dflt (refine' kl_reverse ?zq9F ?zq9N ?zq9e ?zq9U ?zq9z ?_; (case zq9F => k_asm); (case zq9N => k_asm); (case zq9e => exact rfl); (case zq9U => k_upd); (case zq9z => walk_at "sz")); intro h' F' N'; (try k_sweep))
  k_with "all and" => ((repeat' (with_reducible apply And.intro)) <;> first | trivial | assumption | omega)
  k_with "exec While Compare cons nil" => (k_dflt (k_extra "while"))
  k_with "exec While BoolOp cons nil" => (k_dflt (k_extra "while"))
  k_with "exec While" => (k_dflt (k_extra "while"))
  k_with "use side" => ((case k1 => k_asm); (case k2 => k_asm); (case k3 => k_asm); (case k4 => k_asm); (case k5 => k_asm); (case kK => first | exact rfl | assumption); (case kd => ktr_room); (case ku => ktr_units))
  k_with "use new" => ((try simp only [AllNe, and_true] at l1); (try k_sweep); (try dsimp only); (try k_fold))
  k_with "is list" => first | exact trivial | assumption | exact News.isList (by k_asm) (by k_mem) | exact stays_list (Fr.keep (by k_asm)) (by assumption)
  k_with "call ref" => (k_dflt (k_extra "call"))
  k_with "exec Raise some none" => (k_dflt (exfalso; k_extra "raise"))
  k_with "for enter" => (ktd_said "for"; k_here; (rename Fr _ _ _ _ => lF'); (with_unfolding_all refine' For_invVF lF' ?zq9k1 ?zq9k2 ?_; (case zq9k1 => exact rfl); (case zq9k2 => exact rfl); k_whole))
  k_with "exec For Name Subscript cons nil" => (k_dflt (walk_at "for enter"))
  k_with "exec For Name Name cons nil" => (k_dflt (walk_at "for enter"))
  k_with "exec For Name Call cons nil" => (k_dflt (walk_at "for enter"))
  k_with "pyIter ref" => (k_dflt (k_extra "for"))
  k_with "exec Raise some none" => (k_dflt (k_extra "raise die"))
  k_with "turn enter" => (refine' code_turn ?zq9k1 ?zq9k2 ?zq9k3 ?zq9k5 ?zq9kD ?zq9kA ?zq9kF ?zq9kK ?zq9k6 ?zq9k7 ?zq9k8 ?zq9k9 ?zq9kB ?_ ?zq9c2 ?zq9c3 ?zq9c4 ?zq9c5; (case zq9kA => exact rfl); (case zq9kF => exact rfl); (case zq9kK => assumption); (case zq9k1 => k_asm); (case zq9k2 => k_asm); (case zq9k3 => k_asm); (case zq9k5 => k_asm); (case zq9kD => k_asm); (case zq9k6 => k_is); (case zq9k7 => k_is); (case zq9k8 => ktr_room); (case zq9k9 => exact BindsTo.of_eq rfl); (case zq9c5 => decide); (case zq9kB => exact locs rfl); (case zq9c2 => exact rfl); (case zq9c3 => exact rfl); (case zq9c4 => exact rfl); k_whole; intro L' h' F' N' B' X' T' D'; (try dsimp only); (try k_lift B'); (try k_fold))
  k_with "LeaveT" => (k_dflt (refine' leaveT_ ?zq9T9 ?zq9F9 ?_; (case zq9F9 => k_asm); (case zq9T9 => first | exact KtsTurn.refl | assumption)); intro tT; (try dsimp only))
  k_with "new pair" => (intro l' t' u' h' tk' F' N' l1; (try simp only [AllNe, and_true] at l1); (try k_sweep); (try dsimp only); (try k_fold))
  k_with "new ints" => (intro l' vs' n' h' tk' F' N' l1 hI'; (try simp only [AllNe, and_true] at l1); (try k_sweep); (try dsimp only); (try k_fold))
  k_with "grow turn" => (intro gVs gNs gK gPre gT gU gH gTk gI gIt gLt gCls l1 gIs gP gF gN; (try k_lt l1); have kM := kstMark; (try k_fold))
  k_with "grow done" => (intro gVs gNs gK gU gH gTk gI gP gF gN; have kM := kstMark; (try k_fold))
  k_with "eval Call" => (ktd_said "call"; k_here; k_dflt (refine Call_ ?_))
  k_with "new int" => (intro u' h' tk' F' N'; (try k_sweep); (try dsimp only); (try k_fold))
  k_with "eval BinOp" => (k_dflt (k_extra "fact"))
  k_with "new bool" => (intro h' tk' F' N'; (try k_sweep); (try dsimp only); (try k_fold))
  k_with "call builtin:list.extend" => (k_here; (with_reducible show wpAny _ _ (call (Value.builtin _) [Value.ref _, Value.ref _]) _ _ _); k_dflt (refine' my_extend ?zq9F ?zq9N ?zq9b ?zq9U ?zq9ne ?zq9z ?_; (case zq9F => k_asm); (case zq9N => k_asm); (case zq9b => k_mem); (case zq9U => k_upd); (case zq9ne => walk_at "sz"); (case zq9z => walk_at "sz")); intro h' F' N'; (try k_sweep))
  k_with "op line" => (intro opX opE; (try simp only [bitAnd_m1, bitAnd_m4, bitAnd_m6, bitAnd_m7, bitAnd_m8, Int.reduceToNat, Int.reducePow] at opE); (try k_dflt (k_extra "op")))
  k_with "call builtin:min" => ((with_reducible show wpAny _ _ (call (Value.builtin _) [Value.int _ _, Value.int _ _]) _ _ _); ktd_said "min"; (with_reducible rename News _ _ _ _ => N'); (with_unfolding_all apply min_two_N); (case hh => with_unfolding_all rfl); (case N => exact N'); (case F => assumption); clear N'; intro _ _ _ _; k_dflt (k_extra "min"))
  k_with "kmk size line" => ((refine kmk_sz (by l_ints) ?_; rw [PySem.sizeLine_eq]; omega))
  k_with "InvEndN" => (k_dflt kst_close)
  k_with "ite" => (k_here; k_closed; k_dflt (first | refine ite_pos (by decide) ?_ | refine ite_neg (by decide) ?_))
  k_with "sz" => ((simp only [List.size_toArray, Array.size_append, Array.size_push, Array.length_toList, List.length_append, List.length_cons, List.length_nil, List.length_reverse, List.length_map, PySem.sizeLine_eq]); first | omega | (law_lens; omega))
  k_with "kmk nums line" => (first | ((with_reducible refine' kmk_run ?zq9ka ?zq9kb ?zq9kc); (case zq9ka => l_ints); (case zq9kb => kmk_sign); (case zq9kc => kmk_sign)) | ((with_reducible refine' kmk_from ?zq9ka ?zq9kb); (case zq9ka => l_ints); (case zq9kb => kmk_sign)) | ((with_reducible refine' kmk_upto ?zq9ka ?zq9kb); (case zq9ka => l_ints); (case zq9kb => kmk_sign)) | ((with_reducible refine' kmk_upto_neg ?zq9ka ?zq9kb); (case zq9ka => l_ints); (case zq9kb => kmk_sign)))
  k_with "k ne line" => ((refine neN ?_; (try dsimp only); with_reducible first | assumption | exact Ne.symm (by assumption) | exact Nat.ne_of_lt (by assumption) | exact Nat.ne_of_gt (by assumption)))
  k_with "execs cons" => ((with_reducible refine Mine.execs_seq ?_); intro qk)
  k_with "call builtin:str.join" => (k_dflt (k_extra "join"))
  k_dflt walk_at "pure enter"
  (k_with "for" => (k_state (fun pre signs => signs.length = pre.length ∧ signs = pre.map (bitSign ns)) "signs$"))
  (k_with "state" => first | exact bits_turn ⟨by assumption, by assumption⟩ (by assumption) (by assumption) | exact ⟨rfl, rfl⟩)
  (k_with "join" => ((rename StrsAre _ _ => hS9); (rename _ = List.map (bitSign ns) (rangeKs _ _) => hE9); (refine join_list (ys := bitText ns c) (by is_list) (by (have e : bitText ns c = _ := hE9.symm); rw [e]; exact hS9) hS ?_); intro _ _))
  (repeat' (first | ((with_reducible first | refine Mine.seq_nil ?_ | refine Mine.seq_next ?_ | refine Mine.seq_ret ?_); (try dsimp only)) | (k_unfold; (try dsimp only)) | (k_end; kc_close) | walk1 | (dsimp only; walk1) | (leave1; walk_say "STEP leave1"; try dsimp only) | fail "no step"))
  exact pcall_ret hret (by assumption) ⟨_, rfl⟩
end Mine
-- Q2
open PySem PySem.W PyProof.Rows PySem.Calls PySem.Spec
namespace Mine
noncomputable def nibSign (ns : List Int) (k : Int) : Str := Txt.item (Str.ofString "0123456789abcdef") ((if k.fmod 2 = 0 then ns.getD (k.fdiv 2).toNat 0 / 16 else ns.getD (k.fdiv 2).toNat 0 / 1) % 16)
noncomputable def nibText (ns : List Int) (c : Int) : List Str := (rangeKs 0 (c - 0).toNat).map (nibSign ns)
theorem nib_turn1 {ns pre : List Int} {ss : List Str} {k o1 o2 : Int} (h : ss.length = pre.length ∧ ss = pre.map (nibSign ns)) (hb : ((k.fmod 2 == 0) == true) = true) (e1 : o1 = ns.getD (k.fdiv 2).toNat 0 / 16) (e2 : o2 = o1 % 16) :
    (ss ++ [Txt.item (Str.ofString "0123456789abcdef") o2]).length = (pre ++ [k]).length ∧ ss ++ [Txt.item (Str.ofString "0123456789abcdef") o2] = (pre ++ [k]).map (nibSign ns) := by
  obtain ⟨_, rfl⟩ := h
  have hk : k.fmod 2 = 0 := by simpa using hb
  subst e1 e2
  simp [nibSign, hk]
theorem nib_turn2 {ns pre : List Int} {ss : List Str} {k o1 o2 : Int} (h : ss.length = pre.length ∧ ss = pre.map (nibSign ns)) (hb : ((k.fmod 2 == 0) == true) = false) (e1 : o1 = ns.getD (k.fdiv 2).toNat 0 / 1) (e2 : o2 = o1 % 16) :
    (ss ++ [Txt.item (Str.ofString "0123456789abcdef") o2]).length = (pre ++ [k]).length ∧ ss ++ [Txt.item (Str.ofString "0123456789abcdef") o2] = (pre ++ [k]).map (nibSign ns) := by
  obtain ⟨_, rfl⟩ := h
  have hk : ¬ k.fmod 2 = 0 := by simpa using hb
  subst e1 e2
  simp [nibSign, hk]
set_option maxHeartbeats 8000000 in
theorem nibsOf_c (w : World) (l : Addr) (vs : List Value) (ns : List Int) (c : Int) (t : Tok) (hI : IntsAre vs ns) (hlen : ns.length ≤ 1000) (hc : c = 2 * (ns.length : Int)) (hS : ((nibText ns c).map (·.length)).sum + (nibText ns c).length * (Str.ofString "").length ≤ 16777216) :
    PCall w 10 116 [.ref l, .int c t, .bool true] (fun h => h.IsList l vs.toArray) (fun _ _ r => NewText r (Txt.join (Str.ofString "") (nibText ns c))) := by
  unfold PCall prg
  k_fill
  intro mean mg mb dp un gd cn cs aC ccd cl outer A₀ base h₀ L m s Q E hB hF hX hT hK hDp hUn hpre hret
  refine wpAny_call ?_
  k_with_none
  k_with "op line" => (intro opX opE; (try simp only [bitAnd_m1, bitAnd_m4, bitAnd_m6, bitAnd_m7, bitAnd_m8, Int.reduceToNat, Int.reducePow] at opE))
  k_with "binaryOp BitAnd int int" => (k_here; (fail_if_success (with_reducible show wpAny _ _ (binaryOp _ (Value.int (OfNat.ofNat _) _) (Value.int (OfNat.ofNat _) _)) _ _ _)); (with_reducible refine o_and ?_); walk_at "op line")
  k_with "inplaceOp BitAnd int int" => (k_here; (fail_if_success (with_reducible show wpAny _ _ (inplaceOp _ (Value.int (OfNat.ofNat _) _) (Value.int (OfNat.ofNat _) _)) _ _ _)); (with_reducible refine o_iand ?_); walk_at "op line")
  k_with "binaryOp BitOr int int" => (k_here; (fail_if_success (with_reducible show wpAny _ _ (binaryOp _ (Value.int (OfNat.ofNat _) _) (Value.int (OfNat.ofNat _) _)) _ _ _)); (with_reducible refine o_or ?_); walk_at "op line")
  k_with "inplaceOp BitOr int int" => (k_here; (fail_if_success (with_reducible show wpAny _ _ (inplaceOp _ (Value.int (OfNat.ofNat _) _) (Value.int (OfNat.ofNat _) _)) _ _ _)); (with_reducible refine o_ior ?_); walk_at "op line")
  k_with "binaryOp RShift int int" => (k_here; (fail_if_success (with_reducible show wpAny _ _ (binaryOp _ (Value.int (OfNat.ofNat _) _) (Value.int (OfNat.ofNat _) _)) _ _ _)); (with_reducible refine o_rsh ?zq9kb1 ?_); (case zq9kb1 => l_bnd); walk_at "op line")
  k_with "inplaceOp RShift int int" => (k_here; (fail_if_success (with_reducible show wpAny _ _ (inplaceOp _ (Value.int (OfNat.ofNat _) _) (Value.int (OfNat.ofNat _) _)) _ _ _)); (with_reducible refine o_irsh ?zq9kb1 ?_); (case zq9kb1 => l_bnd); walk_at "op line")
  k_with "binaryOp LShift int int" => (k_here; (fail_if_success (with_reducible show wpAny _ _ (binaryOp _ (Value.int (OfNat.ofNat _) _) (Value.int (OfNat.ofNat _) _)) _ _ _)); (with_reducible refine o_lsh ?zq9kb1 ?zq9kb2 ?zq9kb3 ?_); (case zq9kb1 => l_bnd); (case zq9kb2 => l_bnd); (case zq9kb3 => l_bnd); walk_at "op line")
  k_with "pure enter" => (refine' code_pure ?zq9k1 ?zq9k2 ?zq9k3 ?zq9k5 ?zq9kA ?zq9kF ?zq9kK ?zq9k6 ?zq9k7 ?zq9k8 ?zq9k9 ?zq9kB ?_ ?zq9c2 ?zq9c3 ?zq9c4 ?zq9c5; (case zq9kA => exact rfl); (case zq9kF => exact rfl); (case zq9kK => assumption); (case zq9k1 => k_asm); (case zq9k2 => k_asm); (case zq9k3 => k_asm); (case zq9k5 => k_asm); (case zq9k6 => k_is); (case zq9k7 => k_is); (case zq9k8 => ktr_room); (case zq9k9 => exact BindsTo.of_eq rfl); (case zq9c5 => decide); (case zq9kB => exact locs rfl); (case zq9c2 => exact rfl); (case zq9c3 => exact rfl); (case zq9c4 => exact rfl); k_whole; intro L' h' F' N' B' X' T'; (try dsimp only); (try k_lift B'); (try k_fold))
  k_with "passes own line" => (with_reducible exact PySem.PassesOwn.leaving)
  k_with "kst facts1 line" => (first | with_reducible assumption | ((repeat (with_reducible refine IntsAre.cons _ _ ?_)); with_reducible exact IntsAre.nil) | exact IntsAre.append (by with_reducible assumption) (by with_reducible assumption) | exact IntsAre.append (by kst_facts1) (IntsAre.cons _ _ IntsAre.nil) | exact IntsAre.append (by kst_facts1) (IntsAre.cons _ _ (IntsAre.cons _ _ (IntsAre.cons _ _ IntsAre.nil))))
  k_with "sz" => ((try law_lens); (try simp only [List.size_toArray, Array.size_append, Array.size_push, Array.length_toList, List.length_append, List.length_cons, List.length_nil, List.length_reverse, List.length_map, PySem.sizeLine_eq] at *); omega)
  k_with "call builtin:list.reverse" => (k_here; (with_reducible show wpAny _ _ (call (Value.builtin _) [Value.ref _]) _ _ _); k_dflt (refine' kl_reverse ?zq9F ?zq9N ?zq9e ?zq9U ?zq9z ?_; (case zq9F => k_asm); (case zq9N => k_asm); (case zq9e => exact rfl); (case zq9U => k_upd); (case zq9z => walk_at "sz")); intro h' F' N'; (try k_sweep))
  k_with "all and" => ((repeat' (with_reducible apply And.intro)) <;> first | trivial | assumption | omega)
  k_with "exec While Compare cons nil" => (k_dflt (k_extra "while"))
  k_with "exec While BoolOp cons nil" => (k_dflt (k_extra "while"))
  k_with "exec While" => (k_dflt (k_extra "while"))
  k_with "use side" => ((case k1 => k_asm); (case k2 => k_asm); (case k3 => k_asm); (case k4 => k_asm); (case k5 => k_asm); (case kK => first | exact rfl | assumption); (case kd => ktr_room); (case ku => ktr_units))
  k_with "use new" => ((try simp only [AllNe, and_true] at l1); (try k_sweep); (try dsimp only); (try k_fold))
  k_with "is list" => first | exact trivial | assumption | exact News.isList (by k_asm) (by k_mem) | exact stays_list (Fr.keep (by k_asm)) (by assumption)
  k_with "call ref" => (k_dflt (k_extra "call"))
  k_with "exec Raise some none" => (k_dflt (exfalso; k_extra "raise"))
  k_with "for enter" => (ktd_said "for"; k_here; (rename Fr _ _ _ _ => lF'); (with_unfolding_all refine' For_invVF lF' ?zq9k1 ?zq9k2 ?_; (case zq9k1 => exact rfl); (case zq9k2 => exact rfl); k_whole))
  k_with "exec For Name Subscript cons nil" => (k_dflt (walk_at "for enter"))
  k_with "exec For Name Name cons nil" => (k_dflt (walk_at "for enter"))
  k_with "exec For Name Call cons nil" => (k_dflt (walk_at "for enter"))
  k_with "pyIter ref" => (k_dflt (k_extra "for"))
  k_with "exec Raise some none" => (k_dflt (k_extra "raise die"))
  k_with "turn enter" => (refine' code_turn ?zq9k1 ?zq9k2 ?zq9k3 ?zq9k5 ?zq9kD ?zq9kA ?zq9kF ?zq9kK ?zq9k6 ?zq9k7 ?zq9k8 ?zq9k9 ?zq9kB ?_ ?zq9c2 ?zq9c3 ?zq9c4 ?zq9c5; (case zq9kA => exact rfl); (case zq9kF => exact rfl); (case zq9kK => assumption); (case zq9k1 => k_asm); (case zq9k2 => k_asm); (case zq9k3 => k_asm); (case zq9k5 => k_asm); (case zq9kD => k_asm); (case zq9k6 => k_is); (case zq9k7 => k_is); (case zq9k8 => ktr_room); (case zq9k9 => exact BindsTo.of_eq rfl); (case zq9c5 => decide); (case zq9kB => exact locs rfl); (case zq9c2 => exact rfl); (case zq9c3 => exact rfl); (case zq9c4 => exact rfl); k_whole; intro L' h' F' N' B' X' T' D'; (try dsimp only); (try k_lift B'); (try k_fold))
  k_with "LeaveT" => (k_dflt (refine' leaveT_ ?zq9T9 ?zq9F9 ?_; (case zq9F9 => k_asm); (case zq9T9 => first | exact KtsTurn.refl | assumption)); intro tT; (try dsimp only))
  k_with "new pair" => (intro l' t' u' h' tk' F' N' l1; (try simp only [AllNe, and_true] at l1); (try k_sweep); (try dsimp only); (try k_fold))
  k_with "new ints" => (intro l' vs' n' h' tk' F' N' l1 hI'; (try simp only [AllNe, and_true] at l1); (try k_sweep); (try dsimp only); (try k_fold))
  k_with "grow turn" => (intro gVs gNs gK gPre gT gU gH gTk gI gIt gLt gCls l1 gIs gP gF gN; (try k_lt l1); have kM := kstMark; (try k_fold))
  k_with "grow done" => (intro gVs gNs gK gU gH gTk gI gP gF gN; have kM := kstMark; (try k_fold))
  k_with "eval Call" => (ktd_said "call"; k_here; k_dflt (refine Call_ ?_))
  k_with "new int" => (intro u' h' tk' F' N'; (try k_sweep); (try dsimp only); (try k_fold))
  k_with "eval BinOp" => (k_dflt (k_extra "fact"))
  k_with "new bool" => (intro h' tk' F' N'; (try k_sweep); (try dsimp only); (try k_fold))
  k_with "call builtin:list.extend" => (k_here; (with_reducible show wpAny _ _ (call (Value.builtin _) [Value.ref _, Value.ref _]) _ _ _); k_dflt (refine' my_extend ?zq9F ?zq9N ?zq9b ?zq9U ?zq9ne ?zq9z ?_; (case zq9F => k_asm); (case zq9N => k_asm); (case zq9b => k_mem); (case zq9U => k_upd); (case zq9ne => walk_at "sz"); (case zq9z => walk_at "sz")); intro h' F' N'; (try k_sweep))
  k_with "op line" => (intro opX opE; (try simp only [bitAnd_m1, bitAnd_m4, bitAnd_m6, bitAnd_m7, bitAnd_m8, Int.reduceToNat, Int.reducePow] at opE); (try k_dflt (k_extra "op")))
  k_with "call builtin:min" => ((with_reducible show wpAny _ _ (call (Value.builtin _) [Value.int _ _, Value.int _ _]) _ _ _); ktd_said "min"; (with_reducible rename News _ _ _ _ => N'); (with_unfolding_all apply min_two_N); (case hh => with_unfolding_all rfl); (case N => exact N'); (case F => assumption); clear N'; intro _ _ _ _; k_dflt (k_extra "min"))
  k_with "kmk size line" => ((refine kmk_sz (by l_ints) ?_; rw [PySem.sizeLine_eq]; omega))
  k_with "InvEndN" => (k_dflt kst_close)
  k_with "ite" => (k_here; k_closed; k_dflt (first | refine ite_pos (by decide) ?_ | refine ite_neg (by decide) ?_))
  k_with "sz" => ((simp only [List.size_toArray, Array.size_append, Array.size_push, Array.length_toList, List.length_append, List.length_cons, List.length_nil, List.length_reverse, List.length_map, PySem.sizeLine_eq]); first | omega | (law_lens; omega))
  k_with "kmk nums line" => (first | ((with_reducible refine' kmk_run ?zq9ka ?zq9kb ?zq9kc); (case zq9ka => l_ints); (case zq9kb => kmk_sign); (case zq9kc => kmk_sign)) | ((with_reducible refine' kmk_from ?zq9ka ?zq9kb); (case zq9ka => l_ints); (case zq9kb => kmk_sign)) | ((with_reducible refine' kmk_upto ?zq9ka ?zq9kb); (case zq9ka => l_ints); (case zq9kb => kmk_sign)) | ((with_reducible refine' kmk_upto_neg ?zq9ka ?zq9kb); (case zq9ka => l_ints); (case zq9kb => kmk_sign)))
  k_with "k ne line" => ((refine neN ?_; (try dsimp only); with_reducible first | assumption | exact Ne.symm (by assumption) | exact Nat.ne_of_lt (by assumption) | exact Nat.ne_of_gt (by assumption)))
  k_with "execs cons" => ((with_reducible refine Mine.execs_seq ?_); intro qk)
  k_with "call builtin:str.join" => (k_dflt (k_extra "join"))
  k_dflt walk_at "pure enter"
  (k_with "for" => (k_state (fun pre signs => signs.length = pre.length ∧ signs = pre.map (nibSign ns)) "signs$"))
  (k_with "state" => first | exact nib_turn1 ⟨by assumption, by assumption⟩ (by assumption) (by assumption) (by assumption) | exact nib_turn2 ⟨by assumption, by assumption⟩ (by assumption) (by assumption) (by assumption) | exact ⟨rfl, rfl⟩)
  (k_with "join" => ((rename StrsAre _ _ => hS9); (rename _ = List.map (nibSign ns) (rangeKs _ _) => hE9); (refine join_list (ys := nibText ns c) (by is_list) (by (have e : nibText ns c = _ := hE9.symm); rw [e]; exact hS9) hS ?_); intro _ _))
  (repeat' (first | ((with_reducible first | refine Mine.seq_nil ?_ | refine Mine.seq_next ?_ | refine Mine.seq_ret ?_); (try dsimp only)) | (k_unfold; (try dsimp only)) | (k_end; kc_close) | walk1 | (dsimp only; walk1) | (leave1; walk_say "STEP leave1"; try dsimp only) | fail "no step"))
  exact pcall_ret hret (by assumption) ⟨_, rfl⟩
end Mine
-- Q3
open PySem PySem.W PyProof.Rows PySem.Calls PySem.Spec
namespace Mine
noncomputable def bitStep (ns : List Int) (row : List Int) (k : Int) : List Int := if ns.getD k.toNat 0 % 2 = 0 then row else row.set (k.fdiv 8).toNat (Builtin.bitOr (row.getD (k.fdiv 8).toNat 0) (128 / 2 ^ (k.fmod 8).toNat))
noncomputable def bitRow (ns : List Int) (c : Int) : List Int := List.foldl (bitStep ns) (List.replicate ((c + 7).fdiv 8).toNat [0]).flatten (rangeKs 0 ((if (ns.length : Int) < c then (ns.length : Int) else c) - 0).toNat)
theorem bitr_start {c : Int} {ns : List Int} (h0 : 0 ≤ c) (h1 : c ≤ 1000) : ((List.replicate ((c + 7).fdiv 8).toNat [(0 : Int)]).flatten.length : Int) = (c + 7) / 8 ∧ (List.replicate ((c + 7).fdiv 8).toNat [(0 : Int)]).flatten.length ≤ 1000 ∧
    (List.replicate ((c + 7).fdiv 8).toNat [(0 : Int)]).flatten = List.foldl (bitStep ns) (List.replicate ((c + 7).fdiv 8).toNat [0]).flatten [] := by
  have e : (c + 7).fdiv 8 = (c + 7) / 8 := Int.fdiv_eq_ediv_of_nonneg _ (by omega)
  have l : (List.replicate ((c + 7).fdiv 8).toNat [(0 : Int)]).flatten.length = ((c + 7) / 8).toNat := by simp [e]
  refine ⟨by rw [l]; omega, by rw [l]; omega, rfl⟩
theorem bitr_turn1 {ns pre row0 row : List Int} {k o1 o2 o3 q : Int} (h1 : (row.length : Int) = q) (h2 : row.length ≤ 1000) (h3 : row = pre.foldl (bitStep ns) row0) (e1 : o1 = ns.getD k.toNat 0 % 2) (hb : o1 ≠ 0) (e2 : o2 = 128 / 2 ^ (k.fmod 8).toNat) (e3 : o3 = Builtin.bitOr (row.getD (k.fdiv 8).toNat 0) o2) :
    ((row.set (k.fdiv 8).toNat o3).length : Int) = q ∧ (row.set (k.fdiv 8).toNat o3).length ≤ 1000 ∧ row.set (k.fdiv 8).toNat o3 = (pre ++ [k]).foldl (bitStep ns) row0 := by
  refine ⟨by rw [List.length_set]; exact h1, by rw [List.length_set]; exact h2, ?_⟩
  rw [List.foldl_append, ← h3]
  subst e1 e2 e3
  simp only [List.foldl_cons, List.foldl_nil, bitStep]
  rw [if_neg hb]
theorem bitr_turn0 {ns pre row0 row : List Int} {k o1 q : Int} (h1 : (row.length : Int) = q) (h2 : row.length ≤ 1000) (h3 : row = pre.foldl (bitStep ns) row0) (e1 : o1 = ns.getD k.toNat 0 % 2) (hb : o1 = 0) :
    (row.length : Int) = q ∧ row.length ≤ 1000 ∧ row = (pre ++ [k]).foldl (bitStep ns) row0 := by
  refine ⟨h1, h2, ?_⟩
  rw [List.foldl_append, ← h3]
  subst e1
  simp only [List.foldl_cons, List.foldl_nil, bitStep]
  rw [if_pos hb]
set_option maxHeartbeats 8000000 in
theorem rowBits_c (w : World) (l : Addr) (vs : List Value) (ns : List Int) (c : Int) (t : Tok) (hI : IntsAre vs ns) (hlen : ns.length ≤ 1000) (hc : c = (ns.length : Int)) :
    PCall w 10 88 [.ref l, .int c t, .bool true] (fun h => h.IsList l vs.toArray) (fun h₀ h r => NewInts h₀ h r (bitRow ns c)) := by
  unfold PCall prg
  k_fill
  intro mean mg mb dp un gd cn cs aC ccd cl outer A₀ base h₀ L m s Q E hB hF hX hT hK hDp hUn hpre hret
  have hc8 : (c + 7).fdiv 8 = (c + 7) / 8 := Int.fdiv_eq_ediv_of_nonneg _ (by omega)
  refine wpAny_call ?_
  k_with_none
  k_with "op line" => (intro opX opE; (try simp only [bitAnd_m1, bitAnd_m4, bitAnd_m6, bitAnd_m7, bitAnd_m8, Int.reduceToNat, Int.reducePow] at opE))
  k_with "binaryOp BitAnd int int" => (k_here; (fail_if_success (with_reducible show wpAny _ _ (binaryOp _ (Value.int (OfNat.ofNat _) _) (Value.int (OfNat.ofNat _) _)) _ _ _)); (with_reducible refine o_and ?_); walk_at "op line")
  k_with "inplaceOp BitAnd int int" => (k_here; (fail_if_success (with_reducible show wpAny _ _ (inplaceOp _ (Value.int (OfNat.ofNat _) _) (Value.int (OfNat.ofNat _) _)) _ _ _)); (with_reducible refine o_iand ?_); walk_at "op line")
  k_with "binaryOp BitOr int int" => (k_here; (fail_if_success (with_reducible show wpAny _ _ (binaryOp _ (Value.int (OfNat.ofNat _) _) (Value.int (OfNat.ofNat _) _)) _ _ _)); (with_reducible refine o_or ?_); walk_at "op line")
  k_with "inplaceOp BitOr int int" => (k_here; (fail_if_success (with_reducible show wpAny _ _ (inplaceOp _ (Value.int (OfNat.ofNat _) _) (Value.int (OfNat.ofNat _) _)) _ _ _)); (with_reducible refine o_ior ?_); walk_at "op line")
  k_with "binaryOp RShift int int" => (k_here; (fail_if_success (with_reducible show wpAny _ _ (binaryOp _ (Value.int (OfNat.ofNat _) _) (Value.int (OfNat.ofNat _) _)) _ _ _)); (with_reducible refine o_rsh ?zq9kb1 ?_); (case zq9kb1 => l_bnd); walk_at "op line")
  k_with "inplaceOp RShift int int" => (k_here; (fail_if_success (with_reducible show wpAny _ _ (inplaceOp _ (Value.int (OfNat.ofNat _) _) (Value.int (OfNat.ofNat _) _)) _ _ _)); (with_reducible refine o_irsh ?zq9kb1 ?_); (case zq9kb1 => l_bnd); walk_at "op line")
  k_with "binaryOp LShift int int" => (k_here; (fail_if_success (with_reducible show wpAny _ _ (binaryOp _ (Value.int (OfNat.ofNat _) _) (Value.int (OfNat.ofNat _) _)) _ _ _)); (with_reducible refine o_lsh ?zq9kb1 ?zq9kb2 ?zq9kb3 ?_); (case zq9kb1 => l_bnd); (case zq9kb2 => l_bnd); (case zq9kb3 => l_bnd); walk_at "op line")
  k_with "pure enter" => (refine' code_pure ?zq9k1 ?zq9k2 ?zq9k3 ?zq9k5 ?zq9kA ?zq9kF ?zq9kK ?zq9k6 ?zq9k7 ?zq9k8 ?zq9k9 ?zq9kB ?_ ?zq9c2 ?zq9c3 ?zq9c4 ?zq9c5; (case zq9kA => exact rfl); (case zq9kF => exact rfl); (case zq9kK => assumption); (case zq9k1 => k_asm); (case zq9k2 => k_asm); (case zq9k3 => k_asm); (case zq9k5 => k_asm); (case zq9k6 => k_is); (case zq9k7 => k_is); (case zq9k8 => ktr_room); (case zq9k9 => exact BindsTo.of_eq rfl); (case zq9c5 => decide); (case zq9kB => exact locs rfl); (case zq9c2 => exact rfl); (case zq9c3 => exact rfl); (case zq9c4 => exact rfl); k_whole; intro L' h' F' N' B' X' T'; (try dsimp only); (try k_lift B'); (try k_fold))
  k_with "passes own line" => (with_reducible exact PySem.PassesOwn.leaving)
  k_with "kst facts1 line" => (first | with_reducible assumption | ((repeat (with_reducible refine IntsAre.cons _ _ ?_)); with_reducible exact IntsAre.nil) | exact IntsAre.append (by with_reducible assumption) (by with_reducible assumption) | exact IntsAre.append (by kst_facts1) (IntsAre.cons _ _ IntsAre.nil) | exact IntsAre.append (by kst_facts1) (IntsAre.cons _ _ (IntsAre.cons _ _ (IntsAre.cons _ _ IntsAre.nil))))
  k_with "sz" => ((try law_lens); (try simp only [List.size_toArray, Array.size_append, Array.size_push, Array.length_toList, List.length_append, List.length_cons, List.length_nil, List.length_reverse, List.length_map, PySem.sizeLine_eq] at *); omega)
  k_with "call builtin:list.reverse" => (k_here; (with_reducible show wpAny _ _ (call (Value.builtin _) [Value.ref _]) _ _ _); k_dflt (refine' kl_reverse ?zq9F ?zq9N ?zq9e ?zq9U ?zq9z ?_; (case zq9F => k_asm); (case zq9N => k_asm); (case zq9e => exact rfl); (case zq9U => k_upd); (case zq9z => walk_at "sz")); intro h' F' N'; (try k_sweep))
  k_with "all and" => ((repeat' (with_reducible apply And.intro)) <;> first | trivial | assumption | omega)
  k_with "exec While Compare cons nil" => (k_dflt (k_extra "while"))
  k_with "exec While BoolOp cons nil" => (k_dflt (k_extra "while"))
  k_with "exec While" => (k_dflt (k_extra "while"))
  k_with "use side" => ((case k1 => k_asm); (case k2 => k_asm); (case k3 => k_asm); (case k4 => k_asm); (case k5 => k_asm); (case kK => first | exact rfl | assumption); (case kd => ktr_room); (case ku => ktr_units))
  k_with "use new" => ((try simp only [AllNe, and_true] at l1); (try k_sweep); (try dsimp only); (try k_fold))
  k_with "is list" => first | exact trivial | assumption | exact News.isList (by k_asm) (by k_mem) | exact stays_list (Fr.keep (by k_asm)) (by assumption)
  k_with "call ref" => (k_dflt (k_extra "call"))
  k_with "exec Raise some none" => (k_dflt (exfalso; k_extra "raise"))
  k_with "for enter" => (ktd_said "for"; k_here; (rename Fr _ _ _ _ => lF'); (with_unfolding_all refine' For_invVF lF' ?zq9k1 ?zq9k2 ?_; (case zq9k1 => exact rfl); (case zq9k2 => exact rfl); k_whole))
  k_with "exec For Name Subscript cons nil" => (k_dflt (walk_at "for enter"))
  k_with "exec For Name Name cons nil" => (k_dflt (walk_at "for enter"))
  k_with "exec For Name Call cons nil" => (k_dflt (walk_at "for enter"))
  k_with "pyIter ref" => (k_dflt (k_extra "for"))
  k_with "exec Raise some none" => (k_dflt (k_extra "raise die"))
  k_with "turn enter" => (refine' code_turn ?zq9k1 ?zq9k2 ?zq9k3 ?zq9k5 ?zq9kD ?zq9kA ?zq9kF ?zq9kK ?zq9k6 ?zq9k7 ?zq9k8 ?zq9k9 ?zq9kB ?_ ?zq9c2 ?zq9c3 ?zq9c4 ?zq9c5; (case zq9kA => exact rfl); (case zq9kF => exact rfl); (case zq9kK => assumption); (case zq9k1 => k_asm); (case zq9k2 => k_asm); (case zq9k3 => k_asm); (case zq9k5 => k_asm); (case zq9kD => k_asm); (case zq9k6 => k_is); (case zq9k7 => k_is); (case zq9k8 => ktr_room); (case zq9k9 => exact BindsTo.of_eq rfl); (case zq9c5 => decide); (case zq9kB => exact locs rfl); (case zq9c2 => exact rfl); (case zq9c3 => exact rfl); (case zq9c4 => exact rfl); k_whole; intro L' h' F' N' B' X' T' D'; (try dsimp only); (try k_lift B'); (try k_fold))
  k_with "LeaveT" => (k_dflt (refine' leaveT_ ?zq9T9 ?zq9F9 ?_; (case zq9F9 => k_asm); (case zq9T9 => first | exact KtsTurn.refl | assumption)); intro tT; (try dsimp only))
  k_with "new pair" => (intro l' t' u' h' tk' F' N' l1; (try simp only [AllNe, and_true] at l1); (try k_sweep); (try dsimp only); (try k_fold))
  k_with "new ints" => (intro l' vs' n' h' tk' F' N' l1 hI'; (try simp only [AllNe, and_true] at l1); (try k_sweep); (try dsimp only); (try k_fold))
  k_with "grow turn" => (intro gVs gNs gK gPre gT gU gH gTk gI gIt gLt gCls l1 gIs gP gF gN; (try k_lt l1); have kM := kstMark; (try k_fold))
  k_with "grow done" => (intro gVs gNs gK gU gH gTk gI gP gF gN; have kM := kstMark; (try k_fold))
  k_with "eval Call" => (ktd_said "call"; k_here; k_dflt (refine Call_ ?_))
  k_with "new int" => (intro u' h' tk' F' N'; (try k_sweep); (try dsimp only); (try k_fold))
  k_with "eval BinOp" => (k_dflt (k_extra "fact"))
  k_with "new bool" => (intro h' tk' F' N'; (try k_sweep); (try dsimp only); (try k_fold))
  k_with "call builtin:list.extend" => (k_here; (with_reducible show wpAny _ _ (call (Value.builtin _) [Value.ref _, Value.ref _]) _ _ _); k_dflt (refine' my_extend ?zq9F ?zq9N ?zq9b ?zq9U ?zq9ne ?zq9z ?_; (case zq9F => k_asm); (case zq9N => k_asm); (case zq9b => k_mem); (case zq9U => k_upd); (case zq9ne => walk_at "sz"); (case zq9z => walk_at "sz")); intro h' F' N'; (try k_sweep))
  k_with "op line" => (intro opX opE; (try simp only [bitAnd_m1, bitAnd_m4, bitAnd_m6, bitAnd_m7, bitAnd_m8, Int.reduceToNat, Int.reducePow] at opE); (try k_dflt (k_extra "op")))
  k_with "call builtin:min" => ((with_reducible show wpAny _ _ (call (Value.builtin _) [Value.int _ _, Value.int _ _]) _ _ _); ktd_said "min"; (with_reducible rename News _ _ _ _ => N'); (with_unfolding_all apply min_two_N); (case hh => with_unfolding_all rfl); (case N => exact N'); (case F => assumption); clear N'; intro _ _ _ _; k_dflt (k_extra "min"))
  k_with "kmk size line" => ((refine kmk_sz (by l_ints) ?_; rw [PySem.sizeLine_eq]; omega))
  k_with "InvEndN" => (k_dflt kst_close)
  k_with "ite" => (k_here; k_closed; k_dflt (first | refine ite_pos (by decide) ?_ | refine ite_neg (by decide) ?_))
  k_with "sz" => ((simp only [List.size_toArray, Array.size_append, Array.size_push, Array.length_toList, List.length_append, List.length_cons, List.length_nil, List.length_reverse, List.length_map, PySem.sizeLine_eq]); first | omega | (law_lens; omega))
  k_with "kmk nums line" => (first | ((with_reducible refine' kmk_run ?zq9ka ?zq9kb ?zq9kc); (case zq9ka => l_ints); (case zq9kb => kmk_sign); (case zq9kc => kmk_sign)) | ((with_reducible refine' kmk_from ?zq9ka ?zq9kb); (case zq9ka => l_ints); (case zq9kb => kmk_sign)) | ((with_reducible refine' kmk_upto ?zq9ka ?zq9kb); (case zq9ka => l_ints); (case zq9kb => kmk_sign)) | ((with_reducible refine' kmk_upto_neg ?zq9ka ?zq9kb); (case zq9ka => l_ints); (case zq9kb => kmk_sign)))
  k_with "k ne line" => ((refine neN ?_; (try dsimp only); with_reducible first | assumption | exact Ne.symm (by assumption) | exact Nat.ne_of_lt (by assumption) | exact Nat.ne_of_gt (by assumption)))
  k_with "execs cons" => ((with_reducible refine Mine.execs_seq ?_); intro qk)
  k_dflt walk_at "pure enter"
  (k_with "for" => (k_state (fun pre row => (row.length : Int) = (c + 7) / 8 ∧ row.length ≤ 1000 ∧ row = pre.foldl (bitStep ns) (List.replicate ((c + 7).fdiv 8).toNat [0]).flatten) "row"))
  (k_with "state" => first | exact bitr_start (by omega) (by omega) | exact bitr_turn1 (by assumption) (by assumption) (by assumption) (by assumption) (by assumption) (by assumption) (by assumption) | exact bitr_turn0 (by assumption) (by assumption) (by assumption) (by assumption) (by assumption) | (fail))
  (repeat' (first | ((with_reducible first | refine Mine.seq_nil ?_ | refine Mine.seq_next ?_ | refine Mine.seq_ret ?_); (try dsimp only)) | (k_unfold; (try dsimp only)) | (k_end; kc_close) | walk1 | (dsimp only; walk1) | (leave1; walk_say "STEP leave1"; try dsimp only) | fail "no step"))
  refine pcall_ret hret (by assumption) ?_
  (rename _ = List.foldl (bitStep ns) _ (rangeKs _ _) => hE9)
  (rename IntsAre _ _ => hI9)
  rw [hE9] at hI9
  exact newInts_of (by assumption) (List.Mem.head _) hI9
end Mine
-- Q4
open PySem PySem.W PyProof.Rows PySem.Calls PySem.Spec
namespace Mine
noncomputable def nibVal (n : Int) : Int := if (65 ≤ n ∧ n ≤ 90) ∨ (97 ≤ n ∧ n ≤ 122) then (n + 9) % 16 else n % 16
set_option maxHeartbeats 8000000 in
theorem nibOf_c (w : World) (n : Int) (t : Tok) : PCall w 5 102 [.int n t] (fun _ => True) (fun _ _ r => ∃ u, r = .int (nibVal n) u) := by
  unfold PCall prg
  k_fill
  intro mean mg mb dp un gd cn cs aC ccd cl outer A₀ base h₀ L m s Q E hB hF hX hT hK hDp hUn hpre hret
  refine wpAny_call ?_
  k_with_none
  k_with "op line" => (intro opX opE; (try simp only [bitAnd_m1, bitAnd_m4, bitAnd_m6, bitAnd_m7, bitAnd_m8, Int.reduceToNat, Int.reducePow] at opE))
  k_with "binaryOp BitAnd int int" => (k_here; (fail_if_success (with_reducible show wpAny _ _ (binaryOp _ (Value.int (OfNat.ofNat _) _) (Value.int (OfNat.ofNat _) _)) _ _ _)); (with_reducible refine o_and ?_); walk_at "op line")
  k_with "inplaceOp BitAnd int int" => (k_here; (fail_if_success (with_reducible show wpAny _ _ (inplaceOp _ (Value.int (OfNat.ofNat _) _) (Value.int (OfNat.ofNat _) _)) _ _ _)); (with_reducible refine o_iand ?_); walk_at "op line")
  k_with "binaryOp BitOr int int" => (k_here; (fail_if_success (with_reducible show wpAny _ _ (binaryOp _ (Value.int (OfNat.ofNat _) _) (Value.int (OfNat.ofNat _) _)) _ _ _)); (with_reducible refine o_or ?_); walk_at "op line")
  k_with "inplaceOp BitOr int int" => (k_here; (fail_if_success (with_reducible show wpAny _ _ (inplaceOp _ (Value.int (OfNat.ofNat _) _) (Value.int (OfNat.ofNat _) _)) _ _ _)); (with_reducible refine o_ior ?_); walk_at "op line")
  k_with "binaryOp RShift int int" => (k_here; (fail_if_success (with_reducible show wpAny _ _ (binaryOp _ (Value.int (OfNat.ofNat _) _) (Value.int (OfNat.ofNat _) _)) _ _ _)); (with_reducible refine o_rsh ?zq9kb1 ?_); (case zq9kb1 => l_bnd); walk_at "op line")
  k_with "inplaceOp RShift int int" => (k_here; (fail_if_success (with_reducible show wpAny _ _ (inplaceOp _ (Value.int (OfNat.ofNat _) _) (Value.int (OfNat.ofNat _) _)) _ _ _)); (with_reducible refine o_irsh ?zq9kb1 ?_); (case zq9kb1 => l_bnd); walk_at "op line")
  k_with "binaryOp LShift int int" => (k_here; (fail_if_success (with_reducible show wpAny _ _ (binaryOp _ (Value.int (OfNat.ofNat _) _) (Value.int (OfNat.ofNat _) _)) _ _ _)); (with_reducible refine o_lsh ?zq9kb1 ?zq9kb2 ?zq9kb3 ?_); (case zq9kb1 => l_bnd); (case zq9kb2 => l_bnd); (case zq9kb3 => l_bnd); walk_at "op line")
  k_with "pure enter" => (refine' code_pure ?zq9k1 ?zq9k2 ?zq9k3 ?zq9k5 ?zq9kA ?zq9kF ?zq9kK ?zq9k6 ?zq9k7 ?zq9k8 ?zq9k9 ?zq9kB ?_ ?zq9c2 ?zq9c3 ?zq9c4 ?zq9c5; (case zq9kA => exact rfl); (case zq9kF => exact rfl); (case zq9kK => assumption); (case zq9k1 => k_asm); (case zq9k2 => k_asm); (case zq9k3 => k_asm); (case zq9k5 => k_asm); (case zq9k6 => k_is); (case zq9k7 => k_is); (case zq9k8 => ktr_room); (case zq9k9 => exact BindsTo.of_eq rfl); (case zq9c5 => decide); (case zq9kB => exact locs rfl); (case zq9c2 => exact rfl); (case zq9c3 => exact rfl); (case zq9c4 => exact rfl); k_whole; intro L' h' F' N' B' X' T'; (try dsimp only); (try k_lift B'); (try k_fold))
  k_with "passes own line" => (with_reducible exact PySem.PassesOwn.leaving)
  k_with "kst facts1 line" => (first | with_reducible assumption | ((repeat (with_reducible refine IntsAre.cons _ _ ?_)); with_reducible exact IntsAre.nil) | exact IntsAre.append (by with_reducible assumption) (by with_reducible assumption) | exact IntsAre.append (by kst_facts1) (IntsAre.cons _ _ IntsAre.nil) | exact IntsAre.append (by kst_facts1) (IntsAre.cons _ _ (IntsAre.cons _ _ (IntsAre.cons _ _ IntsAre.nil))))
  k_with "sz" => ((try law_lens); (try simp only [List.size_toArray, Array.size_append, Array.size_push, Array.length_toList, List.length_append, List.length_cons, List.length_nil, List.length_reverse, List.length_map, PySem.sizeLine_eq] at *); omega)
  k_with "call builtin:list.reverse" => (k_here; (with_reducible show wpAny _ _ (call (Value.builtin _) [Value.ref _]) _ _ _); k_dflt (refine' kl_reverse ?zq9F ?zq9N ?zq9e ?zq9U ?zq9z ?_; (case zq9F => k_asm); (case zq9N => k_asm); (case zq9e => exact rfl); (case zq9U => k_upd); (case zq9z => walk_at "sz")); intro h' F' N'; (try k_sweep))
  k_with "all and" => ((repeat' (with_reducible apply And.intro)) <;> first | trivial | assumption | omega)
  k_with "exec While Compare cons nil" => (k_dflt (k_extra "while"))
  k_with "exec While BoolOp cons nil" => (k_dflt (k_extra "while"))
  k_with "exec While" => (k_dflt (k_extra "while"))
  k_with "use side" => ((case k1 => k_asm); (case k2 => k_asm); (case k3 => k_asm); (case k4 => k_asm); (case k5 => k_asm); (case kK => first | exact rfl | assumption); (case kd => ktr_room); (case ku => ktr_units))
  k_with "use new" => ((try simp only [AllNe, and_true] at l1); (try k_sweep); (try dsimp only); (try k_fold))
  k_with "is list" => first | exact trivial | assumption | exact News.isList (by k_asm) (by k_mem) | exact stays_list (Fr.keep (by k_asm)) (by assumption)
  k_with "call ref" => (k_dflt (k_extra "call"))
  k_with "exec Raise some none" => (k_dflt (exfalso; k_extra "raise"))
  k_with "for enter" => (ktd_said "for"; k_here; (rename Fr _ _ _ _ => lF'); (with_unfolding_all refine' For_invVF lF' ?zq9k1 ?zq9k2 ?_; (case zq9k1 => exact rfl); (case zq9k2 => exact rfl); k_whole))
  k_with "exec For Name Subscript cons nil" => (k_dflt (walk_at "for enter"))
  k_with "exec For Name Name cons nil" => (k_dflt (walk_at "for enter"))
  k_with "exec For Name Call cons nil" => (k_dflt (walk_at "for enter"))
  k_with "pyIter ref" => (k_dflt (k_extra "for"))
  k_with "exec Raise some none" => (k_dflt (k_extra "raise die"))
  k_with "turn enter" => (refine' code_turn ?zq9k1 ?zq9k2 ?zq9k3 ?zq9k5 ?zq9kD ?zq9kA ?zq9kF ?zq9kK ?zq9k6 ?zq9k7 ?zq9k8 ?zq9k9 ?zq9kB ?_ ?zq9c2 ?zq9c3 ?zq9c4 ?zq9c5; (case zq9kA => exact rfl); (case zq9kF => exact rfl); (case zq9kK => assumption); (case zq9k1 => k_asm); (case zq9k2 => k_asm); (case zq9k3 => k_asm); (case zq9k5 => k_asm); (case zq9kD => k_asm); (case zq9k6 => k_is); (case zq9k7 => k_is); (case zq9k8 => ktr_room); (case zq9k9 => exact BindsTo.of_eq rfl); (case zq9c5 => decide); (case zq9kB => exact locs rfl); (case zq9c2 => exact rfl); (case zq9c3 => exact rfl); (case zq9c4 => exact rfl); k_whole; intro L' h' F' N' B' X' T' D'; (try dsimp only); (try k_lift B'); (try k_fold))
  k_with "LeaveT" => (k_dflt (refine' leaveT_ ?zq9T9 ?zq9F9 ?_; (case zq9F9 => k_asm); (case zq9T9 => first | exact KtsTurn.refl | assumption)); intro tT; (try dsimp only))
  k_with "new pair" => (intro l' t' u' h' tk' F' N' l1; (try simp only [AllNe, and_true] at l1); (try k_sweep); (try dsimp only); (try k_fold))
  k_with "new ints" => (intro l' vs' n' h' tk' F' N' l1 hI'; (try simp only [AllNe, and_true] at l1); (try k_sweep); (try dsimp only); (try k_fold))
  k_with "grow turn" => (intro gVs gNs gK gPre gT gU gH gTk gI gIt gLt gCls l1 gIs gP gF gN; (try k_lt l1); have kM := kstMark; (try k_fold))
  k_with "grow done" => (intro gVs gNs gK gU gH gTk gI gP gF gN; have kM := kstMark; (try k_fold))
  k_with "eval Call" => (ktd_said "call"; k_here; k_dflt (refine Call_ ?_))
  k_with "new int" => (intro u' h' tk' F' N'; (try k_sweep); (try dsimp only); (try k_fold))
  k_with "eval BinOp" => (k_dflt (k_extra "fact"))
  k_with "new bool" => (intro h' tk' F' N'; (try k_sweep); (try dsimp only); (try k_fold))
  k_with "call builtin:list.extend" => (k_here; (with_reducible show wpAny _ _ (call (Value.builtin _) [Value.ref _, Value.ref _]) _ _ _); k_dflt (refine' my_extend ?zq9F ?zq9N ?zq9b ?zq9U ?zq9ne ?zq9z ?_; (case zq9F => k_asm); (case zq9N => k_asm); (case zq9b => k_mem); (case zq9U => k_upd); (case zq9ne => walk_at "sz"); (case zq9z => walk_at "sz")); intro h' F' N'; (try k_sweep))
  k_with "op line" => (intro opX opE; (try simp only [bitAnd_m1, bitAnd_m4, bitAnd_m6, bitAnd_m7, bitAnd_m8, Int.reduceToNat, Int.reducePow] at opE); (try k_dflt (k_extra "op")))
  k_with "call builtin:min" => ((with_reducible show wpAny _ _ (call (Value.builtin _) [Value.int _ _, Value.int _ _]) _ _ _); ktd_said "min"; (with_reducible rename News _ _ _ _ => N'); (with_unfolding_all apply min_two_N); (case hh => with_unfolding_all rfl); (case N => exact N'); (case F => assumption); clear N'; intro _ _ _ _; k_dflt (k_extra "min"))
  k_with "kmk size line" => ((refine kmk_sz (by l_ints) ?_; rw [PySem.sizeLine_eq]; omega))
  k_with "InvEndN" => (k_dflt kst_close)
  k_with "ite" => (k_here; k_closed; k_dflt (first | refine ite_pos (by decide) ?_ | refine ite_neg (by decide) ?_))
  k_with "sz" => ((simp only [List.size_toArray, Array.size_append, Array.size_push, Array.length_toList, List.length_append, List.length_cons, List.length_nil, List.length_reverse, List.length_map, PySem.sizeLine_eq]); first | omega | (law_lens; omega))
  k_with "kmk nums line" => (first | ((with_reducible refine' kmk_run ?zq9ka ?zq9kb ?zq9kc); (case zq9ka => l_ints); (case zq9kb => kmk_sign); (case zq9kc => kmk_sign)) | ((with_reducible refine' kmk_from ?zq9ka ?zq9kb); (case zq9ka => l_ints); (case zq9kb => kmk_sign)) | ((with_reducible refine' kmk_upto ?zq9ka ?zq9kb); (case zq9ka => l_ints); (case zq9kb => kmk_sign)) | ((with_reducible refine' kmk_upto_neg ?zq9ka ?zq9kb); (case zq9ka => l_ints); (case zq9kb => kmk_sign)))
  k_with "k ne line" => ((refine neN ?_; (try dsimp only); with_reducible first | assumption | exact Ne.symm (by assumption) | exact Nat.ne_of_lt (by assumption) | exact Nat.ne_of_gt (by assumption)))
  k_with "execs cons" => ((with_reducible refine Mine.execs_seq ?_); intro qk)
  k_dflt walk_at "pure enter"
  (repeat' (first | ((with_reducible first | refine Mine.seq_nil ?_ | refine Mine.seq_next ?_ | refine Mine.seq_ret ?_); (try dsimp only)) | (k_unfold; (try dsimp only)) | (k_end; kc_close) | walk1 | (dsimp only; walk1) | (leave1; walk_say "STEP leave1"; try dsimp only) | fail "no step"))
  all_goals (refine pcall_ret hret (by assumption) ?_)
  all_goals (rename _ = _ % 16 => hE9)
  all_goals subst hE9
  · exact ⟨_, by unfold nibVal; rw [if_pos (by omega)]⟩
  all_goals first | exact ⟨_, by unfold nibVal; rw [if_neg (by omega)]⟩ | exact ⟨_, by unfold nibVal; rw [if_pos (by omega)]⟩
noncomputable def nibStep (ns : List Int) (row : List Int) (k : Int) : List Int := row.set (k.fdiv 2).toNat (Builtin.bitOr (row.getD (k.fdiv 2).toNat 0) (if k.fmod 2 = 0 then nibVal (ns.getD k.toNat 0) * 16 else nibVal (ns.getD k.toNat 0) * 1))
noncomputable def nibRow (ns : List Int) (c : Int) : List Int := List.foldl (nibStep ns) (List.replicate ((c + 1).fdiv 2).toNat [0]).flatten (rangeKs 0 ((if (ns.length : Int) < c then (ns.length : Int) else c) - 0).toNat)
theorem nibr_start {c : Int} {ns : List Int} (h0 : 0 ≤ c) (h1 : c ≤ 1000) : ((List.replicate ((c + 1).fdiv 2).toNat [(0 : Int)]).flatten.length : Int) = (c + 1) / 2 ∧ (List.replicate ((c + 1).fdiv 2).toNat [(0 : Int)]).flatten.length ≤ 1000 ∧
    (List.replicate ((c + 1).fdiv 2).toNat [(0 : Int)]).flatten = List.foldl (nibStep ns) (List.replicate ((c + 1).fdiv 2).toNat [0]).flatten [] := by
  have e : (c + 1).fdiv 2 = (c + 1) / 2 := Int.fdiv_eq_ediv_of_nonneg _ (by omega)
  have l : (List.replicate ((c + 1).fdiv 2).toNat [(0 : Int)]).flatten.length = ((c + 1) / 2).toNat := by simp [e]
  refine ⟨by rw [l]; omega, by rw [l]; omega, rfl⟩
theorem nibr_turn1 {ns pre row0 row : List Int} {k o2 o3 q : Int} (h1 : (row.length : Int) = q) (h2 : row.length ≤ 1000) (h3 : row = pre.foldl (nibStep ns) row0) (hb : ((k.fmod 2 == 0) == true) = true) (e2 : o2 = nibVal (ns.getD k.toNat 0) * 16) (e3 : o3 = Builtin.bitOr (row.getD (k.fdiv 2).toNat 0) o2) :
    ((row.set (k.fdiv 2).toNat o3).length : Int) = q ∧ (row.set (k.fdiv 2).toNat o3).length ≤ 1000 ∧ row.set (k.fdiv 2).toNat o3 = (pre ++ [k]).foldl (nibStep ns) row0 := by
  refine ⟨by rw [List.length_set]; exact h1, by rw [List.length_set]; exact h2, ?_⟩
  rw [List.foldl_append, ← h3]
  have hk : k.fmod 2 = 0 := by simpa using hb
  subst e2 e3
  simp only [List.foldl_cons, List.foldl_nil, nibStep]
  rw [if_pos hk]
theorem nibr_turn2 {ns pre row0 row : List Int} {k o2 o3 q : Int} (h1 : (row.length : Int) = q) (h2 : row.length ≤ 1000) (h3 : row = pre.foldl (nibStep ns) row0) (hb : ((k.fmod 2 == 0) == true) = false) (e2 : o2 = nibVal (ns.getD k.toNat 0) * 1) (e3 : o3 = Builtin.bitOr (row.getD (k.fdiv 2).toNat 0) o2) :
    ((row.set (k.fdiv 2).toNat o3).length : Int) = q ∧ (row.set (k.fdiv 2).toNat o3).length ≤ 1000 ∧ row.set (k.fdiv 2).toNat o3 = (pre ++ [k]).foldl (nibStep ns) row0 := by
  refine ⟨by rw [List.length_set]; exact h1, by rw [List.length_set]; exact h2, ?_⟩
  rw [List.foldl_append, ← h3]
  have hk : ¬ k.fmod 2 = 0 := by simpa using hb
  subst e2 e3
  simp only [List.foldl_cons, List.foldl_nil, nibStep]
  rw [if_neg hk]
theorem nibVal_small (n : Int) : 0 ≤ nibVal n ∧ nibVal n < 16 := by unfold nibVal; split <;> omega
set_option maxHeartbeats 8000000 in
theorem rowNibs_c (w : World) (l : Addr) (vs : List Value) (ns : List Int) (c : Int) (t : Tok) (hI : IntsAre vs ns) (hlen : ns.length ≤ 1000) (hc : c = (ns.length : Int)) :
    PCall w 20 109 [.ref l, .int c t, .bool true] (fun h => h.IsList l vs.toArray) (fun h₀ h r => NewInts h₀ h r (nibRow ns c)) := by
  unfold PCall prg
  k_fill
  intro mean mg mb dp un gd cn cs aC ccd cl outer A₀ base h₀ L m s Q E hB hF hX hT hK hDp hUn hpre hret
  have hc8 : (c + 1).fdiv 2 = (c + 1) / 2 := Int.fdiv_eq_ediv_of_nonneg _ (by omega)
  have hnb9 := fun n => nibVal_small n
  refine wpAny_call ?_
  k_with_none
  k_with "op line" => (intro opX opE; (try simp only [bitAnd_m1, bitAnd_m4, bitAnd_m6, bitAnd_m7, bitAnd_m8, Int.reduceToNat, Int.reducePow] at opE))
  k_with "binaryOp BitAnd int int" => (k_here; (fail_if_success (with_reducible show wpAny _ _ (binaryOp _ (Value.int (OfNat.ofNat _) _) (Value.int (OfNat.ofNat _) _)) _ _ _)); (with_reducible refine o_and ?_); walk_at "op line")
  k_with "inplaceOp BitAnd int int" => (k_here; (fail_if_success (with_reducible show wpAny _ _ (inplaceOp _ (Value.int (OfNat.ofNat _) _) (Value.int (OfNat.ofNat _) _)) _ _ _)); (with_reducible refine o_iand ?_); walk_at "op line")
  k_with "binaryOp BitOr int int" => (k_here; (fail_if_success (with_reducible show wpAny _ _ (binaryOp _ (Value.int (OfNat.ofNat _) _) (Value.int (OfNat.ofNat _) _)) _ _ _)); (with_reducible refine o_or ?_); walk_at "op line")
  k_with "inplaceOp BitOr int int" => (k_here; (fail_if_success (with_reducible show wpAny _ _ (inplaceOp _ (Value.int (OfNat.ofNat _) _) (Value.int (OfNat.ofNat _) _)) _ _ _)); (with_reducible refine o_ior ?_); walk_at "op line")
  k_with "binaryOp RShift int int" => (k_here; (fail_if_success (with_reducible show wpAny _ _ (binaryOp _ (Value.int (OfNat.ofNat _) _) (Value.int (OfNat.ofNat _) _)) _ _ _)); (with_reducible refine o_rsh ?zq9kb1 ?_); (case zq9kb1 => l_bnd); walk_at "op line")
  k_with "inplaceOp RShift int int" => (k_here; (fail_if_success (with_reducible show wpAny _ _ (inplaceOp _ (Value.int (OfNat.ofNat _) _) (Value.int (OfNat.ofNat _) _)) _ _ _)); (with_reducible refine o_irsh ?zq9kb1 ?_); (case zq9kb1 => l_bnd); walk_at "op line")
  k_with "binaryOp LShift int int" => (k_here; (fail_if_success (with_reducible show wpAny _ _ (binaryOp _ (Value.int (OfNat.ofNat _) _) (Value.int (OfNat.ofNat _) _)) _ _ _)); (with_reducible refine o_lsh ?zq9kb1 ?zq9kb2 ?zq9kb3 ?_); (case zq9kb1 => l_bnd); (case zq9kb2 => l_bnd); (case zq9kb3 => l_bnd); walk_at "op line")
  k_with "pure enter" => (refine' code_pure ?zq9k1 ?zq9k2 ?zq9k3 ?zq9k5 ?zq9kA ?zq9kF ?zq9kK ?zq9k6 ?zq9k7 ?zq9k8 ?zq9k9 ?zq9kB ?_ ?zq9c2 ?zq9c3 ?zq9c4 ?zq9c5; (case zq9kA => exact rfl); (case zq9kF => exact rfl); (case zq9kK => assumption); (case zq9k1 => k_asm); (case zq9k2 => k_asm); (case zq9k3 => k_asm); (case zq9k5 => k_asm); (case zq9k6 => k_is); (case zq9k7 => k_is); (case zq9k8 => ktr_room); (case zq9k9 => exact BindsTo.of_eq rfl); (case zq9c5 => decide); (case zq9kB => exact locs rfl); (case zq9c2 => exact rfl); (case zq9c3 => exact rfl); (case zq9c4 => exact rfl); k_whole; intro L' h' F' N' B' X' T'; (try dsimp only); (try k_lift B'); (try k_fold))
  k_with "passes own line" => (with_reducible exact PySem.PassesOwn.leaving)
  k_with "kst facts1 line" => (first | with_reducible assumption | ((repeat (with_reducible refine IntsAre.cons _ _ ?_)); with_reducible exact IntsAre.nil) | exact IntsAre.append (by with_reducible assumption) (by with_reducible assumption) | exact IntsAre.append (by kst_facts1) (IntsAre.cons _ _ IntsAre.nil) | exact IntsAre.append (by kst_facts1) (IntsAre.cons _ _ (IntsAre.cons _ _ (IntsAre.cons _ _ IntsAre.nil))))
  k_with "sz" => ((try law_lens); (try simp only [List.size_toArray, Array.size_append, Array.size_push, Array.length_toList, List.length_append, List.length_cons, List.length_nil, List.length_reverse, List.length_map, PySem.sizeLine_eq] at *); omega)
  k_with "call builtin:list.reverse" => (k_here; (with_reducible show wpAny _ _ (call (Value.builtin _) [Value.ref _]) _ _ _); k_dflt (refine' kl_reverse ?zq9F ?zq9N ?zq9e ?zq9U ?zq9z ?_; (case zq9F => k_asm); (case zq9N => k_asm); (case zq9e => exact rfl); (case zq9U => k_upd); (case zq9z => walk_at "sz")); intro h' F' N'; (try k_sweep))
  k_with "all and" => ((repeat' (with_reducible apply And.intro)) <;> first | trivial | assumption | omega)
  k_with "exec While Compare cons nil" => (k_dflt (k_extra "while"))
  k_with "exec While BoolOp cons nil" => (k_dflt (k_extra "while"))
  k_with "exec While" => (k_dflt (k_extra "while"))
  k_with "use side" => ((case k1 => k_asm); (case k2 => k_asm); (case k3 => k_asm); (case k4 => k_asm); (case k5 => k_asm); (case kK => first | exact rfl | assumption); (case kd => ktr_room); (case ku => ktr_units))
  k_with "use new" => ((try simp only [AllNe, and_true] at l1); (try k_sweep); (try dsimp only); (try k_fold))
  k_with "is list" => first | exact trivial | assumption | exact News.isList (by k_asm) (by k_mem) | exact stays_list (Fr.keep (by k_asm)) (by assumption)
  k_with "call ref" => (k_dflt (k_extra "call"))
  k_with "exec Raise some none" => (k_dflt (exfalso; k_extra "raise"))
  k_with "for enter" => (ktd_said "for"; k_here; (rename Fr _ _ _ _ => lF'); (with_unfolding_all refine' For_invVF lF' ?zq9k1 ?zq9k2 ?_; (case zq9k1 => exact rfl); (case zq9k2 => exact rfl); k_whole))
  k_with "exec For Name Subscript cons nil" => (k_dflt (walk_at "for enter"))
  k_with "exec For Name Name cons nil" => (k_dflt (walk_at "for enter"))
  k_with "exec For Name Call cons nil" => (k_dflt (walk_at "for enter"))
  k_with "pyIter ref" => (k_dflt (k_extra "for"))
  k_with "exec Raise some none" => (k_dflt (k_extra "raise die"))
  k_with "turn enter" => (refine' code_turn ?zq9k1 ?zq9k2 ?zq9k3 ?zq9k5 ?zq9kD ?zq9kA ?zq9kF ?zq9kK ?zq9k6 ?zq9k7 ?zq9k8 ?zq9k9 ?zq9kB ?_ ?zq9c2 ?zq9c3 ?zq9c4 ?zq9c5; (case zq9kA => exact rfl); (case zq9kF => exact rfl); (case zq9kK => assumption); (case zq9k1 => k_asm); (case zq9k2 => k_asm); (case zq9k3 => k_asm); (case zq9k5 => k_asm); (case zq9kD => k_asm); (case zq9k6 => k_is); (case zq9k7 => k_is); (case zq9k8 => ktr_room); (case zq9k9 => exact BindsTo.of_eq rfl); (case zq9c5 => decide); (case zq9kB => exact locs rfl); (case zq9c2 => exact rfl); (case zq9c3 => exact rfl); (case zq9c4 => exact rfl); k_whole; intro L' h' F' N' B' X' T' D'; (try dsimp only); (try k_lift B'); (try k_fold))
  k_with "LeaveT" => (k_dflt (refine' leaveT_ ?zq9T9 ?zq9F9 ?_; (case zq9F9 => k_asm); (case zq9T9 => first | exact KtsTurn.refl | assumption)); intro tT; (try dsimp only))
  k_with "new pair" => (intro l' t' u' h' tk' F' N' l1; (try simp only [AllNe, and_true] at l1); (try k_sweep); (try dsimp only); (try k_fold))
  k_with "new ints" => (intro l' vs' n' h' tk' F' N' l1 hI'; (try simp only [AllNe, and_true] at l1); (try k_sweep); (try dsimp only); (try k_fold))
  k_with "grow turn" => (intro gVs gNs gK gPre gT gU gH gTk gI gIt gLt gCls l1 gIs gP gF gN; (try k_lt l1); have kM := kstMark; (try k_fold))
  k_with "grow done" => (intro gVs gNs gK gU gH gTk gI gP gF gN; have kM := kstMark; (try k_fold))
  k_with "eval Call" => (ktd_said "call"; k_here; k_dflt (refine Call_ ?_))
  k_with "new int" => (intro u' h' tk' F' N'; (try k_sweep); (try dsimp only); (try k_fold))
  k_with "eval BinOp" => (k_dflt (k_extra "fact"))
  k_with "new bool" => (intro h' tk' F' N'; (try k_sweep); (try dsimp only); (try k_fold))
  k_with "call builtin:list.extend" => (k_here; (with_reducible show wpAny _ _ (call (Value.builtin _) [Value.ref _, Value.ref _]) _ _ _); k_dflt (refine' my_extend ?zq9F ?zq9N ?zq9b ?zq9U ?zq9ne ?zq9z ?_; (case zq9F => k_asm); (case zq9N => k_asm); (case zq9b => k_mem); (case zq9U => k_upd); (case zq9ne => walk_at "sz"); (case zq9z => walk_at "sz")); intro h' F' N'; (try k_sweep))
  k_with "op line" => (intro opX opE; (try simp only [bitAnd_m1, bitAnd_m4, bitAnd_m6, bitAnd_m7, bitAnd_m8, Int.reduceToNat, Int.reducePow] at opE); (try k_dflt (k_extra "op")))
  k_with "call builtin:min" => ((with_reducible show wpAny _ _ (call (Value.builtin _) [Value.int _ _, Value.int _ _]) _ _ _); ktd_said "min"; (with_reducible rename News _ _ _ _ => N'); (with_unfolding_all apply min_two_N); (case hh => with_unfolding_all rfl); (case N => exact N'); (case F => assumption); clear N'; intro _ _ _ _; k_dflt (k_extra "min"))
  k_with "kmk size line" => ((refine kmk_sz (by l_ints) ?_; rw [PySem.sizeLine_eq]; omega))
  k_with "InvEndN" => (k_dflt kst_close)
  k_with "ite" => (k_here; k_closed; k_dflt (first | refine ite_pos (by decide) ?_ | refine ite_neg (by decide) ?_))
  k_with "sz" => ((simp only [List.size_toArray, Array.size_append, Array.size_push, Array.length_toList, List.length_append, List.length_cons, List.length_nil, List.length_reverse, List.length_map, PySem.sizeLine_eq]); first | omega | (law_lens; omega))
  k_with "kmk nums line" => (first | ((with_reducible refine' kmk_run ?zq9ka ?zq9kb ?zq9kc); (case zq9ka => l_ints); (case zq9kb => kmk_sign); (case zq9kc => kmk_sign)) | ((with_reducible refine' kmk_from ?zq9ka ?zq9kb); (case zq9ka => l_ints); (case zq9kb => kmk_sign)) | ((with_reducible refine' kmk_upto ?zq9ka ?zq9kb); (case zq9ka => l_ints); (case zq9kb => kmk_sign)) | ((with_reducible refine' kmk_upto_neg ?zq9ka ?zq9kb); (case zq9ka => l_ints); (case zq9kb => kmk_sign)))
  k_with "k ne line" => ((refine neN ?_; (try dsimp only); with_reducible first | assumption | exact Ne.symm (by assumption) | exact Nat.ne_of_lt (by assumption) | exact Nat.ne_of_gt (by assumption)))
  k_with "execs cons" => ((with_reducible refine Mine.execs_seq ?_); intro qk)
  k_dflt walk_at "pure enter"
  (k_with "for" => (k_state (fun pre row => (row.length : Int) = (c + 1) / 2 ∧ row.length ≤ 1000 ∧ row = pre.foldl (nibStep ns) (List.replicate ((c + 1).fdiv 2).toNat [0]).flatten) "row"))
  (k_with "call" => ((refine' use_int (nibOf_c w _ _) ?k1 ?k2 ?k3 ?k4 ?k5 ?kK ?kd ?ku ?kp ?_); (case kp => trivial); walk_at "use side"; walk_at "new int"; (have hns9 := nibVal_small (ns.getD kN.toNat 0))))
  (k_with "state" => first | exact nibr_start (by omega) (by omega) | exact nibr_turn1 (by assumption) (by assumption) (by assumption) (by assumption) (by assumption) (by assumption) | exact nibr_turn2 (by assumption) (by assumption) (by assumption) (by assumption) (by assumption) (by assumption))
  (repeat' (first | ((with_reducible first | refine Mine.seq_nil ?_ | refine Mine.seq_next ?_ | refine Mine.seq_ret ?_); (try dsimp only)) | (k_unfold; (try dsimp only)) | (k_end; kc_close) | walk1 | (dsimp only; walk1) | (leave1; walk_say "STEP leave1"; try dsimp only) | fail "no step"))
  refine pcall_ret hret (by assumption) ?_
  (rename _ = List.foldl (nibStep ns) _ (rangeKs _ _) => hE9)
  (rename IntsAre _ _ => hI9)
  rw [hE9] at hI9
  exact newInts_of (by assumption) (List.Mem.head _) hI9
end Mine
-- Nl
open PySem PySem.W PyProof.Rows PySem.Calls PySem.Spec
namespace Mine
section
variable {M : Model} {A : Around} {E : Value → Shared → Prop} {s : Shared} {h₀ : Heap} {L D : Addr} {m : Str → Option Value} {news : List (Addr × Obj)} {its : Array Value}
theorem newList_K3 {vs : List Value} {Q : Value → Shared → Prop} (F : Fr h₀ L s.heap m) (N : News h₀ L s.heap news) (hl : s.heap.IsList D its)
    (h : ∀ l h', Fr h₀ L h' m → News h₀ L h' ((l, listOf vs.toArray 0) :: news) → (∀ p ∈ news, p.1 < l) → h'.IsList D its → Q (.ref l) { s with heap := h' }) (hsz : vs.length ≤ sizeLine := by size_fits) : wpAny M A (newList vs) Q E s :=
  newList_NK F N (fun h' F' N' k => h _ h' F' N' (fun p hp => Heap.lt_size (N p hp).1) (by obtain ⟨o, ho, r⟩ := hl; exact ⟨o, k _ _ ho, r⟩)) hsz
end
end Mine
open Mine
-- S6
open PySem PySem.W PyProof.Rows PySem.Calls PySem.Spec
namespace Mine
set_option maxHeartbeats 8000000 in
theorem linesRight_c (w : World) (l : Addr) (vs : List Value) (ns : List Int) (c : Int) (t : Tok) (hI : IntsAre vs ns) (hlen : ns.length ≤ 100) (hb : ∀ x ∈ ns, 0 ≤ x ∧ x < 256) (hc : 0 ≤ c) (hc2 : c < 13) :
    PCall w 50 216 [.ref l, .int c t] (fun h => h.IsList l vs.toArray) (fun _ _ r => r = .bool true) := by
  unfold PCall prg
  k_fill
  intro mean mg mb dp un gd cn cs aC ccd cl outer A₀ base h₀ L m s Q E hB hF hX hT hK hDp hUn hpre hret
  have hW9 := wide_bounds hc hc2
  have hok9 := chunks_ok (W := wideOf c) (ns := ns) (by omega) (by omega) hb
  have hrl9 := uuRows_len (W := wideOf c) hok9 (by omega)
  have hfl9 := chunks_all (W := wideOf c) (ns := ns) (by omega)
  have hrl8 : (lines (chunks (wideOf c) ns ((ns.length + (wideOf c - 1)) / wideOf c))).length = (uuRows (wideOf c) ns).length := rfl
  refine wpAny_call ?_
  k_with_none
  k_with "op line" => (intro opX opE; (try simp only [bitAnd_m1, bitAnd_m4, bitAnd_m6, bitAnd_m7, bitAnd_m8, Int.reduceToNat, Int.reducePow] at opE))
  k_with "binaryOp BitAnd int int" => (k_here; (fail_if_success (with_reducible show wpAny _ _ (binaryOp _ (Value.int (OfNat.ofNat _) _) (Value.int (OfNat.ofNat _) _)) _ _ _)); (with_reducible refine o_and ?_); walk_at "op line")
  k_with "inplaceOp BitAnd int int" => (k_here; (fail_if_success (with_reducible show wpAny _ _ (inplaceOp _ (Value.int (OfNat.ofNat _) _) (Value.int (OfNat.ofNat _) _)) _ _ _)); (with_reducible refine o_iand ?_); walk_at "op line")
  k_with "binaryOp BitOr int int" => (k_here; (fail_if_success (with_reducible show wpAny _ _ (binaryOp _ (Value.int (OfNat.ofNat _) _) (Value.int (OfNat.ofNat _) _)) _ _ _)); (with_reducible refine o_or ?_); walk_at "op line")
  k_with "inplaceOp BitOr int int" => (k_here; (fail_if_success (with_reducible show wpAny _ _ (inplaceOp _ (Value.int (OfNat.ofNat _) _) (Value.int (OfNat.ofNat _) _)) _ _ _)); (with_reducible refine o_ior ?_); walk_at "op line")
  k_with "binaryOp RShift int int" => (k_here; (fail_if_success (with_reducible show wpAny _ _ (binaryOp _ (Value.int (OfNat.ofNat _) _) (Value.int (OfNat.ofNat _) _)) _ _ _)); (with_reducible refine o_rsh ?zq9kb1 ?_); (case zq9kb1 => l_bnd); walk_at "op line")
  k_with "inplaceOp RShift int int" => (k_here; (fail_if_success (with_reducible show wpAny _ _ (inplaceOp _ (Value.int (OfNat.ofNat _) _) (Value.int (OfNat.ofNat _) _)) _ _ _)); (with_reducible refine o_irsh ?zq9kb1 ?_); (case zq9kb1 => l_bnd); walk_at "op line")
  k_with "binaryOp LShift int int" => (k_here; (fail_if_success (with_reducible show wpAny _ _ (binaryOp _ (Value.int (OfNat.ofNat _) _) (Value.int (OfNat.ofNat _) _)) _ _ _)); (with_reducible refine o_lsh ?zq9kb1 ?zq9kb2 ?zq9kb3 ?_); (case zq9kb1 => l_bnd); (case zq9kb2 => l_bnd); (case zq9kb3 => l_bnd); walk_at "op line")
  k_with "pure enter" => (refine' code_pure ?zq9k1 ?zq9k2 ?zq9k3 ?zq9k5 ?zq9kA ?zq9kF ?zq9kK ?zq9k6 ?zq9k7 ?zq9k8 ?zq9k9 ?zq9kB ?_ ?zq9c2 ?zq9c3 ?zq9c4 ?zq9c5; (case zq9kA => exact rfl); (case zq9kF => exact rfl); (case zq9kK => assumption); (case zq9k1 => k_asm); (case zq9k2 => k_asm); (case zq9k3 => k_asm); (case zq9k5 => k_asm); (case zq9k6 => k_is); (case zq9k7 => k_is); (case zq9k8 => ktr_room); (case zq9k9 => exact BindsTo.of_eq rfl); (case zq9c5 => decide); (case zq9kB => exact locs rfl); (case zq9c2 => exact rfl); (case zq9c3 => exact rfl); (case zq9c4 => exact rfl); k_whole; intro L' h' F' N' B' X' T'; (try dsimp only); (try k_lift B'); (try k_fold))
  k_with "passes own line" => (with_reducible exact PySem.PassesOwn.leaving)
  k_with "kst facts1 line" => (first | with_reducible assumption | ((repeat (with_reducible refine IntsAre.cons _ _ ?_)); with_reducible exact IntsAre.nil) | exact IntsAre.append (by with_reducible assumption) (by with_reducible assumption) | exact IntsAre.append (by kst_facts1) (IntsAre.cons _ _ IntsAre.nil) | exact IntsAre.append (by kst_facts1) (IntsAre.cons _ _ (IntsAre.cons _ _ (IntsAre.cons _ _ IntsAre.nil))))
  k_with "sz" => ((try law_lens); (try simp only [List.size_toArray, Array.size_append, Array.size_push, Array.length_toList, List.length_append, List.length_cons, List.length_nil, List.length_reverse, List.length_map, PySem.sizeLine_eq] at *); omega)
  k_with "call builtin:list.reverse" => (k_here; (with_reducible show wpAny _ _ (call (Value.builtin _) [Value.ref _]) _ _ _); k_dflt (refine' kl_reverse ?zq9F ?zq9N ?zq9e ?zq9U ?zq9z ?_; (case zq9F => k_asm); (case zq9N => k_asm); (case zq9e => exact rfl); (case zq9U => k_upd); (case zq9z => walk_at "sz")); intro h' F' N'; (try k_sweep))
  k_with "all and" => ((repeat' (with_reducible apply And.intro)) <;> first | trivial | assumption | omega)
  k_with "exec While Compare cons nil" => (k_dflt (k_extra "while"))
  k_with "exec While BoolOp cons nil" => (k_dflt (k_extra "while"))
  k_with "exec While" => (k_dflt (k_extra "while"))
  k_with "use side" => ((case k1 => k_asm); (case k2 => k_asm); (case k3 => k_asm); (case k4 => k_asm); (case k5 => k_asm); (case kK => first | exact rfl | assumption); (case kd => ktr_room); (case ku => ktr_units))
  k_with "use new" => ((try simp only [AllNe, and_true] at l1); (try k_sweep); (try dsimp only); (try k_fold))
  k_with "is list" => first | exact trivial | assumption | exact News.isList (by k_asm) (by k_mem) | exact stays_list (Fr.keep (by k_asm)) (by assumption)
  k_with "call ref" => (k_dflt (k_extra "call"))
  k_with "exec Raise some none" => (k_dflt (exfalso; k_extra "raise"))
  k_with "for enter" => (ktd_said "for"; k_here; (rename Fr _ _ _ _ => lF'); (with_unfolding_all refine' For_invVF lF' ?zq9k1 ?zq9k2 ?_; (case zq9k1 => exact rfl); (case zq9k2 => exact rfl); k_whole))
  k_with "exec For Name Subscript cons nil" => (k_dflt (walk_at "for enter"))
  k_with "exec For Name Name cons nil" => (k_dflt (walk_at "for enter"))
  k_with "exec For Name Call cons nil" => (k_dflt (walk_at "for enter"))
  k_with "pyIter ref" => (k_dflt (k_extra "for"))
  k_with "exec Raise some none" => (k_dflt (k_extra "raise die"))
  k_with "turn enter" => (refine' code_turn ?zq9k1 ?zq9k2 ?zq9k3 ?zq9k5 ?zq9kD ?zq9kA ?zq9kF ?zq9kK ?zq9k6 ?zq9k7 ?zq9k8 ?zq9k9 ?zq9kB ?_ ?zq9c2 ?zq9c3 ?zq9c4 ?zq9c5; (case zq9kA => exact rfl); (case zq9kF => exact rfl); (case zq9kK => assumption); (case zq9k1 => k_asm); (case zq9k2 => k_asm); (case zq9k3 => k_asm); (case zq9k5 => k_asm); (case zq9kD => k_asm); (case zq9k6 => k_is); (case zq9k7 => k_is); (case zq9k8 => ktr_room); (case zq9k9 => exact BindsTo.of_eq rfl); (case zq9c5 => decide); (case zq9kB => exact locs rfl); (case zq9c2 => exact rfl); (case zq9c3 => exact rfl); (case zq9c4 => exact rfl); k_whole; intro L' h' F' N' B' X' T' D'; (try dsimp only); (try k_lift B'); (try k_fold))
  k_with "LeaveT" => (k_dflt (refine' leaveT_ ?zq9T9 ?zq9F9 ?_; (case zq9F9 => k_asm); (case zq9T9 => first | exact KtsTurn.refl | assumption)); intro tT; (try dsimp only))
  k_with "new pair" => (intro l' t' u' h' tk' F' N' l1; (try simp only [AllNe, and_true] at l1); (try k_sweep); (try dsimp only); (try k_fold))
  k_with "new ints" => (intro l' vs' n' h' tk' F' N' l1 hI'; (try simp only [AllNe, and_true] at l1); (try k_sweep); (try dsimp only); (try k_fold))
  k_with "grow turn" => (intro gVs gNs gK gPre gT gU gH gTk gI gIt gLt gCls l1 gIs gP gF gN; (try k_lt l1); have kM := kstMark; (try k_fold))
  k_with "grow done" => (intro gVs gNs gK gU gH gTk gI gP gF gN; have kM := kstMark; (try k_fold))
  k_with "eval Call" => (ktd_said "call"; k_here; k_dflt (refine Call_ ?_))
  k_with "new int" => (intro u' h' tk' F' N'; (try k_sweep); (try dsimp only); (try k_fold))
  k_with "eval BinOp" => (k_dflt (k_extra "fact"))
  k_with "new bool" => (intro h' tk' F' N'; (try k_sweep); (try dsimp only); (try k_fold))
  k_with "call builtin:list.extend" => (k_here; (with_reducible show wpAny _ _ (call (Value.builtin _) [Value.ref _, Value.ref _]) _ _ _); k_dflt (refine' my_extend ?zq9F ?zq9N ?zq9b ?zq9U ?zq9ne ?zq9z ?_; (case zq9F => k_asm); (case zq9N => k_asm); (case zq9b => k_mem); (case zq9U => k_upd); (case zq9ne => walk_at "sz"); (case zq9z => walk_at "sz")); intro h' F' N'; (try k_sweep))
  k_with "op line" => (intro opX opE; (try simp only [bitAnd_m1, bitAnd_m4, bitAnd_m6, bitAnd_m7, bitAnd_m8, Int.reduceToNat, Int.reducePow] at opE); (try k_dflt (k_extra "op")))
  k_with "call builtin:min" => ((with_reducible show wpAny _ _ (call (Value.builtin _) [Value.int _ _, Value.int _ _]) _ _ _); ktd_said "min"; (with_reducible rename News _ _ _ _ => N'); (with_unfolding_all apply min_two_N); (case hh => with_unfolding_all rfl); (case N => exact N'); (case F => assumption); clear N'; intro _ _ _ _; k_dflt (k_extra "min"))
  k_with "kmk size line" => ((refine kmk_sz (by l_ints) ?_; rw [PySem.sizeLine_eq]; omega))
  k_with "InvEndN" => (k_dflt kst_close)
  k_with "ite" => (k_here; k_closed; k_dflt (first | refine ite_pos (by decide) ?_ | refine ite_neg (by decide) ?_))
  k_with "sz" => ((simp only [List.size_toArray, Array.size_append, Array.size_push, Array.length_toList, List.length_append, List.length_cons, List.length_nil, List.length_reverse, List.length_map, PySem.sizeLine_eq]); first | omega | (law_lens; omega))
  k_with "kmk nums line" => (first | ((with_reducible refine' kmk_run ?zq9ka ?zq9kb ?zq9kc); (case zq9ka => l_ints); (case zq9kb => kmk_sign); (case zq9kc => kmk_sign)) | ((with_reducible refine' kmk_from ?zq9ka ?zq9kb); (case zq9ka => l_ints); (case zq9kb => kmk_sign)) | ((with_reducible refine' kmk_upto ?zq9ka ?zq9kb); (case zq9ka => l_ints); (case zq9kb => kmk_sign)) | ((with_reducible refine' kmk_upto_neg ?zq9ka ?zq9kb); (case zq9ka => l_ints); (case zq9kb => kmk_sign)))
  k_with "k ne line" => ((refine neN ?_; (try dsimp only); with_reducible first | assumption | exact Ne.symm (by assumption) | exact Nat.ne_of_lt (by assumption) | exact Nat.ne_of_gt (by assumption)))
  k_with "execs cons" => ((with_reducible refine Mine.execs_seq ?_); intro qk)
  k_with "new row" => (intro p' t' l' vs' n' h' tk' F' N' l1 l2 hI'; (try simp only [AllNe, and_true] at l1 l2); (try k_sweep); (try dsimp only); (try k_fold))
  k_with "newList" => (k_here; (with_reducible rename PyProof.Rows.CarriedAll _ (List.map PyData.int (List.filter _ _)) => cC9); (with_reducible rename Heap.IsList _ _ _ => iL9); k_dflt (refine' newList_K3 ?zq9k1 ?zq9k2 iL9 ?_; (case zq9k1 => k_asm); (case zq9k2 => k_asm); k_whole); clear iL9; intro l' h' F' N' l1 iL8; (try k_lt l1); (try k_sweep))
  k_with "compareOp NotEq ref ref" => (k_dflt (k_extra "ne"))
  k_with "binaryOp FloorDiv int int" => (k_dflt (k_extra "fdiv"))
  k_dflt walk_at "pure enter"
  (k_with "ne" => ((rename CarriedAll _ (List.map PyData.int _) => hC9); ((have hC8 := carried_nil hC9 (filter_sign (lines_ok hok9).1)); clear hC9; subst hC8; have hI4 := IntsAre.nil)))
  (k_with "call" => (first
    | ((refine' use_ints (uuRow_c w l _ _ _ _ hI hlen hb hc hc2) ?k1 ?k2 ?k3 ?k4 ?k5 ?kK ?kd ?ku ?kp ?_); (case kp => walk_at "is list"); walk_at "use side"; walk_at "new ints")
    | ((rename IntsAre _ (uuRows _ _) => hI7); (refine' use_row (readUu_c w _ _ _ _ hI7 ?kc hok9 ?kc2) ?k1 ?k2 ?k3 ?k4 ?k5 ?kK ?kd ?ku ?kp ?_); (case kc => (show (uuRows _ _).length ≤ _; omega)); (case kc2 => (rw [hfl9]; omega)); (case kp => walk_at "is list"); walk_at "use side"; rw [hfl9]; walk_at "new row")
    | ((first | (rename IntsAre _ (List.drop _ _) => hI5) | (rename IntsAre _ (List.take _ (List.drop _ _)) => hI5) | (rename IntsAre _ (List.take _ _) => hI5)); (refine' use_ints (uuRow_c w _ _ _ _ _ hI5 ?kl ?kb hc hc2) ?k1 ?k2 ?k3 ?k4 ?k5 ?kK ?kd ?ku ?kp ?_); (case kl => (simp only [List.length_take, List.length_drop]; omega)); (case kb => exact fun x hx => hb x (by first | exact List.mem_of_mem_take hx | exact List.mem_of_mem_drop hx | exact List.mem_of_mem_drop (List.mem_of_mem_take hx))); (case kp => walk_at "is list"); walk_at "use side"; walk_at "new ints"; (rename IntsAre _ (uuRows _ _) => hI3); first | (have hl3 := few_take hI3 (by omega) (by omega) hlen hb) | (have hl3 := few_drop hI3 (by omega) (by omega) hlen hb))))
  (k_with "fdiv" => ((have hw2 : ¬ c ≤ 2 := (by omega)); rw [wide_hi (c := c) hw2]; refine floordiv_int (by omega) ?_ (Or.inl (PyProof.noPylong_small (by omega)))))
  (repeat' (first | ((with_reducible first | refine Mine.seq_nil ?_ | refine Mine.seq_next ?_ | refine Mine.seq_ret ?_); (try dsimp only)) | (k_unfold; (try dsimp only)) | (k_end; kc_close) | walk1 | (dsimp only; walk1) | (leave1; walk_say "STEP leave1"; try dsimp only) | fail "no step"))
  all_goals first
    | exact absurd (rows_lines1 hok9 hW9.1 (by omega)) (by assumption)
    | exact absurd (rows_lines hok9 hW9.1) (by assumption)
    | exact absurd (rows_lines2 hok9 hW9.1 (by omega)) (by assumption)
    | (refine pcall_ret hret (by assumption) ?_
       show Value.bool (decide _) = Value.bool true
       first
         | rw [decide_eq_true (show uuRows (wideOf c) ns = uuRows (wideOf c) (List.take 45 ns) ++ uuRows (wideOf c) (List.drop 45 ns) by rw [show 45 = wideOf c by have := wide_lo (c := c) (by omega); omega]; exact rows_split (by omega))]
         | rw [decide_eq_true (show uuRows (wideOf c) ns = uuRows (wideOf c) (List.take (c.fdiv 3 * 3).toNat ns) ++ uuRows (wideOf c) (List.drop (c.fdiv 3 * 3).toNat ns) by rw [wide_hi (c := c) (by omega), Int.toNat_natCast]; exact rows_split (by omega))])
    | (exfalso; have hw9 := wide_hi (c := c) (by omega); omega)
end Mine
-- Lq
open PySem PySem.W PyProof.Rows PySem.Calls PySem.Spec
namespace Mine
/-- a list of lists: the codes of these numbers, one by one -/
inductive RowsAre (enc : Int → List Int) (N : List (Addr × Obj)) : List Value → List Int → Prop
  | nil : RowsAre enc N [] []
  | cons {r : Addr} {ws : List Value} {n : Nat} {k : Int} {vs : List Value} {ks : List Int} : (r, listOf ws.toArray n) ∈ N → IntsAre ws (enc k) → RowsAre enc N vs ks → RowsAre enc N (.ref r :: vs) (k :: ks)
section
variable {enc : Int → List Int} {N : List (Addr × Obj)}
theorem RowsAre.len {vs : List Value} {ks : List Int} (h : RowsAre enc N vs ks) : vs.length = ks.length := by
  induction h with
  | nil => rfl
  | cons _ _ _ ih => exact congrArg (· + 1) ih
theorem RowsAre.at {vs : List Value} {ks : List Int} (h : RowsAre enc N vs ks) : ∀ (i : Nat), i < ks.length → ∃ r ws n k, vs[i]? = some (.ref r) ∧ ks[i]? = some k ∧ (r, listOf ws.toArray n) ∈ N ∧ IntsAre ws (enc k) := by
  induction h with
  | nil => exact fun i h => absurd h (Nat.not_lt_zero i)
  | cons hm hi _ ih =>
    intro i h
    cases i with
    | zero => exact ⟨_, _, _, _, rfl, rfl, hm, hi⟩
    | succ i => exact ih i (Nat.lt_of_succ_lt_succ h)
theorem RowsAre.mono {N' : List (Addr × Obj)} (s : ∀ p ∈ N, p ∈ N') {vs : List Value} {ks : List Int} (h : RowsAre enc N vs ks) : RowsAre enc N' vs ks := by
  induction h with
  | nil => exact .nil
  | cons hm hi _ ih => exact .cons (s _ hm) hi ih
end
section
variable {prog : Program} {w : World} {A : Around} {E : Value → Shared → Prop} {s : Shared} {env : Env} {h₀ : Heap} {x : Str} {body : List Stmt} {Q : Flow → Shared → Prop}
/-- a loop over a list of any values of the ledger -/
theorem iter_vals {l : Addr} {vs : List Value} {nn : Nat} {m₀ : Str → Option Value} {news : List (Addr × Obj)} (J : Nat → (Str → Option Value) → List (Addr × Obj) → Prop)
    (hh : A.handled = none) (hl : (l, listOf vs.toArray nn) ∈ news) (F : Fr h₀ env.locals s.heap m₀) (N : News h₀ env.locals s.heap news) (hj : J 0 m₀ news)
    (turn : ∀ i v m₁ news₁ h tk own, vs[i]? = some v → OwnOff own (news.map (·.1)) → (l, listOf vs.toArray nn) ∈ news₁ → J i m₁ news₁ → Fr h₀ env.locals h (fun y => if y = x then some v else m₁ y) → News h₀ env.locals h (news₁ ++ own) →
      wpAny (model prog w) A (execs body env) (InvPostN h₀ env.locals (fun m' nx => (l, listOf vs.toArray nn) ∈ nx ∧ J (i + 1) m' nx) own (news.map (·.1)) { s with heap := h, toks := tk } Q) E { s with heap := h, toks := tk })
    (done : ∀ m₁ news₁ h tk, J vs.length m₁ news₁ → Fr h₀ env.locals h m₁ → News h₀ env.locals h news₁ → Q .next { s with heap := h, toks := tk }) :
    wpAny (model prog w) A (pyIter (.ref l)) (fun it s₂ => LoopAtV prog w A h₀ env x body Q E it s₂) E s := by
  have hol : s.heap.get? l = some (listOf vs.toArray nn) := (N _ hl).1
  have hls : s.heap.IsList l vs.toArray := ⟨_, hol, rfl, nn, rfl⟩
  have hne : l ≠ s.heap.objs.size := Nat.ne_of_lt (Heap.lt_size hol)
  refine wpAny_pyIter_list hls ?_
  have W := Walks.list (prog := prog) (w := w) hh s.heap.objs.size l hne vs.toArray
  rw [List.size_toArray] at W
  refine loopV_at (news := news) (m := m₀) (fun i m nx => nx.map (·.1) = news.map (·.1) ∧ (l, listOf vs.toArray nn) ∈ nx ∧ J i m nx) W ?_ ?_ ?_ ⟨⟨_, Heap.get?_push_size _ rfl, rfl, rfl⟩, hls.at fun o e => Heap.get?_push_of_some _ e⟩ (F.push _) (fun p hp => ⟨Heap.get?_push_of_some _ (N p hp).1, (N p hp).2⟩) ⟨rfl, hl, hj⟩ ?_ ?_
  · intro hm
    rcases List.mem_cons.mp hm with e | hm
    · exact absurd F.ns.lt (e ▸ Nat.lt_irrefl _)
    · exact (N _ hl).2.1 ((List.mem_singleton.mp hm).symm)
  · intro b hb
    rw [List.mem_singleton.mp hb]
    exact next_is_new F
  · intro p hp hI
    exact absurd (Heap.lt_size (N p hp).1) ((List.mem_singleton.mp hI) ▸ Nat.lt_irrefl _)
  · intro i v m₁ news₁ s₁ own hs₁ _ hP hJ₁ _ hown hget _ _ F₁ N₁
    obtain ⟨hh', tk', rfl⟩ := hs₁
    have hl₁ := hJ₁.2.1
    have hJ := hJ₁.2.2
    have hsep : OwnOff (own.filter fun p => decide (p.1 = s.heap.objs.size)) (news.map (·.1)) := by
      intro p hp b hb e
      obtain ⟨q, hq, rfl⟩ := List.mem_map.mp hb
      have h1 : p.1 = s.heap.objs.size := by simpa using (List.mem_filter.mp hp).2
      exact absurd (Heap.lt_size (N q hq).1) (by rw [← e, h1]; exact Nat.lt_irrefl _)
    have N₂ : News h₀ env.locals hh' (news₁ ++ own.filter fun p => decide (p.1 = s.heap.objs.size)) := fun p hp => N₁ p ((List.mem_append.mp hp).elim (fun h => List.mem_append.mpr (.inr h)) fun h => List.mem_append.mpr (.inl ((List.mem_filter.mp h).1)))
    have hlo : hh'.get? l = some (listOf vs.toArray nn) := (N₁ _ (List.mem_append.mpr (.inr hl₁))).1
    refine wpAny_mono (turn i v m₁ news₁ hh' tk' _ (by simpa using hP) hsep hl₁ hJ F₁ N₂) (fun f s₂ p => ?_) fun _ _ e => e
    have fin : InvEndN h₀ env.locals (fun m' nx => (l, listOf vs.toArray nn) ∈ nx ∧ J (i + 1) m' nx) (own.filter fun p => decide (p.1 = s.heap.objs.size)) (news.map (·.1)) { s with heap := hh', toks := tk' } s₂ →
        LoopStepU h₀ env.locals [s.heap.objs.size] own (fun m nx => nx.map (·.1) = news.map (·.1) ∧ (l, listOf vs.toArray nn) ∈ nx ∧ J (i + 1) m nx) { s with heap := hh', toks := tk' } .next s₂ := by
      refine fun hE => invEnd_elim hE fun h' tk m' news' nx e F' N' hn ho ha hm => ?_
      refine ⟨rfl, h', tk, m', nx, e, F', fun p hp => ?_, fun p hp => ?_, ha, hm⟩
      · rcases List.mem_append.mp hp with h | h
        · by_cases hI : p.1 = s.heap.objs.size
          · exact N' p (ho p (List.mem_filter.mpr ⟨h, by simpa using hI⟩))
          · have h1 : p.1 = l := by
              rcases List.mem_cons.mp (hown p h) with h2 | h2
              · exact absurd h2 hI
              · exact List.mem_singleton.mp h2
            have h2 : hh'.get? p.1 = some p.2 := hget p h
            rw [h1, hlo] at h2
            have h3 : p = (l, listOf vs.toArray nn) := Prod.ext h1 (Option.some.inj h2).symm
            rw [h3]
            exact N' _ (hn _ hm.1)
        · exact N' p (hn p h)
      · have h1 : p.1 ∈ nx.map (·.1) := List.mem_map.mpr ⟨p, hp, rfl⟩
        rw [ha] at h1
        obtain ⟨q, hq, e⟩ := List.mem_map.mp h1
        intro hI
        exact absurd (Heap.lt_size (N q hq).1) (by rw [e, List.mem_singleton.mp hI]; exact Nat.lt_irrefl _)
    cases f with
    | ret v => exact .ret p
    | brk => exact .brk p
    | next => exact .next (fin p)
    | cont => exact .cont (fin p)
  · intro h' tk m' news' F' N' _ hJ
    exact done m' news' h' tk hJ.2.2 F' N'

/-- what is collected -/
def AccInv (enc : Int → List Int) (nums : List Int) (i : Nat) (row : List Int) : Prop := row.length ≤ 100 * i ∧ row = flat enc (nums.take i)
theorem AccInv.start {enc : Int → List Int} {nums : List Int} : AccInv enc nums 0 [] := ⟨Nat.zero_le _, rfl⟩
theorem AccInv.turn {enc : Int → List Int} {nums row : List Int} {i j : Nat} {n : Int} (h : AccInv enc nums i row) (hn : nums[i]? = some n) (hj : j = i + 1) (hl : (enc n).length ≤ 100) : AccInv enc nums j (row ++ enc n) := by
  subst hj
  obtain ⟨h1, rfl⟩ := h
  refine ⟨by rw [List.length_append]; lia, ?_⟩
  rw [List.take_add_one, hn, flat_append]
  simp [flat]
theorem AccInv.len {enc : Int → List Int} {nums row : List Int} {i : Nat} (h : AccInv enc nums i row) : row.length ≤ 100 * i := h.1
theorem AccInv.done {enc : Int → List Int} {nums row : List Int} (h : AccInv enc nums nums.length row) : row = flat enc nums := by
  have := h.2
  rwa [List.take_length] at this
/-- a loop over such a list of lists, that lets one list of ints grow -/
theorem each_rows {enc : Int → List Int} {nums : List Int} {l r : Addr} {its : List Value} {kr : Nat} {rest : List (Addr × Obj)} {m₀ : Str → Option Value} {k₀ : Nat} (stored : List Str)
    (hh : A.handled = none) (F : Fr h₀ env.locals s.heap m₀) (N : News h₀ env.locals s.heap ((l, listOf #[] k₀) :: rest)) (hr : (r, listOf its.toArray kr) ∈ rest) (hR : RowsAre enc rest its nums) (hne : ∀ p ∈ rest, p.1 ≠ l) (hen : ∀ n ∈ nums, 0 < (enc n).length ∧ (enc n).length ≤ 100)
    (turn : ∀ (gv : List Value) (gn : List Int) (gk : Nat) (pre : List Int) (q : Addr) (ws : List Value) (nq : Nat) (n : Int) (u : Str → Option Value) h tk (own : List (Addr × Obj)), pre.length < nums.length → nums[pre.length]? = some n → n ∈ nums → IntsAre ws (enc n) → (ws.length ≠ 0 ∧ ws.length ≤ 100) → @Ne Nat q l → OwnOff own (l :: rest.map (·.1)) → IntsAre gv gn → AccInv enc nums pre.length gn → gv.length ≤ 100 * pre.length →
      Fr h₀ env.locals h (fun y => if y = x then some (.ref q) else if stored.contains y then u y else m₀ y) → News h₀ env.locals h ((q, listOf ws.toArray nq) :: ((l, listOf gv.toArray gk) :: rest ++ own)) →
      wpAny (model prog w) A (execs body env) (InvPostN h₀ env.locals (KstS (fun g : (List Value × List Int × Nat) => (l, listOf g.1.toArray g.2.2) :: rest) (fun _ => []) (fun g => IntsAre g.1 g.2.1) x stored m₀ (fun p g => AccInv enc nums p.length g.2.1) (pre ++ [0])) own (l :: rest.map (·.1)) { s with heap := h, toks := tk } Q) E { s with heap := h, toks := tk })
    (done : ∀ (gv : List Value) (gn : List Int) (gk : Nat) (u : Str → Option Value) h tk, IntsAre gv gn → AccInv enc nums nums.length gn → Fr h₀ env.locals h (fun y => if y = x then u y else if stored.contains y then u y else m₀ y) → News h₀ env.locals h ((l, listOf gv.toArray gk) :: rest) → Q .next { s with heap := h, toks := tk }) :
    wpAny (model prog w) A (pyIter (.ref r)) (fun it s₂ => LoopAtV prog w A h₀ env x body Q E it s₂) E s := by
  let Led : (List Value × List Int × Nat) → List (Addr × Obj) := fun g => (l, listOf g.1.toArray g.2.2) :: rest
  refine iter_vals (fun i m nx => KstS Led (fun _ => []) (fun g => IntsAre g.1 g.2.1) x stored m₀ (fun p g => AccInv enc nums p.length g.2.1) (List.replicate i 0) m nx) hh (.tail _ hr) F N ⟨([], [], k₀), rfl, .nil, (fun p hp => nomatch hp), (fun _ _ _ _ => rfl), AccInv.start⟩ ?_ ?_
  · intro i v m₁ news₁ h tk own hv hoff hl₁ hK F₁ N₁
    refine kstS_elim hK fun g eg hf' h1 h2 hp' => ?_
    subst eg
    have hlt : i < its.length := by
      rcases Nat.lt_or_ge i its.length with z | z
      · exact z
      · rw [List.getElem?_eq_none z] at hv; cases hv
    rw [hR.len] at hlt
    obtain ⟨q, ws, nq, n, e1, e2, hm, hi⟩ := hR.at i hlt
    rw [hv] at e1
    obtain rfl := Option.some.inj e1
    have hpl : (List.replicate i (0 : Int)).length = i := List.length_replicate
    have hs : List.replicate (i + 1) (0 : Int) = List.replicate i 0 ++ [0] := List.replicate_succ'
    have hp2 : AccInv enc nums i g.2.1 := by
      have : AccInv enc nums (List.replicate i (0 : Int)).length g.2.1 := hp'
      rwa [hpl] at this
    have hmem := List.mem_of_getElem? e2
    have hw := hi.length
    have hgl := IntsAre.length hf'
    have := hen n hmem
    rw [hs]
    refine wpAny_mono (turn g.1 g.2.1 g.2.2 (List.replicate i 0) q ws nq n m₁ h tk own (by rw [hpl]; exact hlt) (by rw [hpl]; exact e2) hmem hi (by lia) (hne _ hm) hoff hf' (by rw [hpl]; exact hp2) (by have := hp2.1; rw [hpl]; lia) (kst_fr (ps := []) (fun _ hp => nomatch hp) (fun z hz _ hc => h2 z hz (fun _ hp => nomatch hp) hc) F₁) ?_) (fun f s₂ p => ?_) fun _ _ x => x
    · intro p hp
      rcases List.mem_cons.mp hp with rfl | hp
      · exact N₁ _ (List.mem_append_left _ (.tail _ hm))
      · exact N₁ p hp
    have up : InvEndN h₀ env.locals (KstS Led (fun _ => []) (fun g => IntsAre g.1 g.2.1) x stored m₀ (fun p g => AccInv enc nums p.length g.2.1) (List.replicate i 0 ++ [0])) own (l :: rest.map (·.1)) { s with heap := h, toks := tk } s₂ →
        InvEndN h₀ env.locals (fun m' nx => (r, listOf its.toArray kr) ∈ nx ∧ KstS Led (fun _ => []) (fun g => IntsAre g.1 g.2.1) x stored m₀ (fun p g => AccInv enc nums p.length g.2.1) (List.replicate i 0 ++ [0]) m' nx) own (l :: rest.map (·.1)) { s with heap := h, toks := tk } s₂ := by
      refine fun hE => invEnd_elim hE fun h' tk' m' news' nx' e' F' N' hn ho' ha hS => ⟨h', tk', m', news', nx', e', F', N', hn, ho', ha, kstS_elim hS fun c' ec _ _ _ _ => ec ▸ .tail _ hr, hS⟩
    cases f with
    | ret v => exact p
    | brk => exact p
    | next => exact up p
    | cont => exact up p
  · intro m₁ nx h tk hK F₁ N₁
    refine kstS_elim hK fun g eg hf' h1 h2 hp' => ?_
    subst eg
    have hp2 : AccInv enc nums (List.replicate its.length (0 : Int)).length g.2.1 := hp'
    rw [List.length_replicate, hR.len] at hp2
    exact done g.1 g.2.1 g.2.2 m₁ h tk hf' hp2 (kst_frOut (ps := []) (fun _ hp => nomatch hp) (fun z hz _ hc => h2 z hz (fun _ hp => nomatch hp) hc) F₁) N₁
/-- a loop over a range that changes nothing -/
theorem still_range {r : Addr} {b₀ : Int} {t₀ u₀ v₀ : Tok} {n : Nat} {m₀ : Str → Option Value} {news : List (Addr × Obj)} (stored : List Str)
    (hh : A.handled = none) (hr : IsRange s.heap r 0 b₀ 1 t₀ u₀ v₀) (hb : b₀ = (n : Int)) (hb2 : n < 1000000) (F : Fr h₀ env.locals s.heap m₀) (N : News h₀ env.locals s.heap news)
    (turn : ∀ (k : Int) (pre : List Int) t (u : Str → Option Value) h tk own, 0 ≤ k → k < (n : Int) → OwnOff own (news.map (·.1)) →
      Fr h₀ env.locals h (fun y => if y = x then some (.int k t) else if stored.contains y then u y else m₀ y) → News h₀ env.locals h (news ++ own) →
      wpAny (model prog w) A (execs body env) (InvPostN h₀ env.locals (KstS (fun _ : Unit => news) (fun _ => []) (fun _ => True) x stored m₀ (fun _ _ => True) (pre ++ [k])) own (news.map (·.1)) { s with heap := h, toks := tk } Q) E { s with heap := h, toks := tk })
    (done : ∀ (u : Str → Option Value) h tk, Fr h₀ env.locals h (fun y => if y = x then u y else if stored.contains y then u y else m₀ y) → News h₀ env.locals h news → Q .next { s with heap := h, toks := tk }) :
    wpAny (model prog w) A (pyIter (.ref r)) (fun it s₂ => LoopAtV prog w A h₀ env x body Q E it s₂) E s := by
  subst hb
  refine kst_range (fun _ : Unit => news) (fun _ => []) (fun _ => True) stored (fun _ _ => True) () hh hr (range_small (by lia) (by lia) (by lia) (by lia) (by lia) (by lia)) (range_size (n := n) (by lia) (by rw [Int.ediv_one]; split <;> lia)) F N trivial (fun p hp => nomatch hp) trivial ?_ ?_
  · intro _ pre k t u h tk own hk hlt hoff _ _ F₁ N₁
    exact turn k pre t u h tk own (by lia) (by lia) hoff F₁ N₁
  · intro _ u h tk _ _ F₁ N₁
    exact done u h tk F₁ N₁
/-- an item of such a list of lists, at any place -/
theorem row_item {enc : Int → List Int} {nums : List Int} {value slice : PySem.Expr} {l L : Addr} {news : List (Addr × Obj)} {its : List Value} {kl : Nat} {k : Int} {t : Tok} {Q : Value → Shared → Prop} (N : News h₀ L s.heap news) (hm : (l, listOf its.toArray kl) ∈ news) (hR : RowsAre enc news its nums)
    (h0 : 0 ≤ k) (h1 : k < nums.length) (h2 : nums.length < 1000000) (h : ∀ r ws n, News h₀ L s.heap ((r, listOf ws.toArray n) :: news) → IntsAre ws (enc (nums.getD k.toNat 0)) → Q (.ref r) s)
    (hs : subscripted slice false (.ref l) (.int k t) = operate [.ref l, .int k t] (getItem (.ref l) (.int k t))) : wpAny (model prog w) A (subscriptTail value slice (.ref l) (.int k t)) Q E s := by
  have hl : s.heap.IsList l its.toArray := ⟨_, (N _ hm).1, rfl, kl, rfl⟩
  obtain ⟨r, ws, n, j, e1, e2, hm2, hi⟩ := hR.at k.toNat (by lia)
  have e3 : nums.getD k.toNat 0 = j := by rw [List.getD_eq_getElem?_getD, e2]; rfl
  refine tail_any hl.typeIs slot_list_getitem.lookup (getItem_listL hl h0 (by lia) e1 (h r ws n (fun p hp => ?_) (by rw [e3]; exact hi))) hs
  rcases List.mem_cons.mp hp with rfl | hp
  · exact N _ hm2
  · exact N p hp
end
end Mine
-- Lm
open PySem PySem.W PyProof.Rows PySem.Calls PySem.Spec
namespace Mine
theorem sub_same {l : List (Addr × Obj)} : ∀ p, p ∈ l → p ∈ l := fun _ h => h
theorem sub_more {y : Addr × Obj} {l l' : List (Addr × Obj)} (h : ∀ p, p ∈ l → p ∈ l') : ∀ p, p ∈ l → p ∈ y :: l' := fun p hp => List.mem_cons_of_mem _ (h p hp)
end Mine
namespace Mine
theorem still_end {x : Str} {h₀ : Heap} {L : Addr} {stored : List Str} {m₀ m' : Str → Option Value} {news own news' : List (Addr × Obj)} {pre : List Int} {s₁ : Shared} {h' : Heap} {tk : Nat} (F : Fr h₀ L h' m') (N : News h₀ L h' news') (hn : ∀ p, p ∈ news → p ∈ news') (ho : ∀ p, p ∈ own → p ∈ news')
    (hr : ∀ z, z ≠ x → stored.contains z = false → m' z = m₀ z) : InvEndN h₀ L (KstS (fun _ : Unit => news) (fun _ => []) (fun _ => True) x stored m₀ (fun _ _ => True) pre) own (news.map (·.1)) s₁ { s₁ with heap := h', toks := tk } :=
  kst_end () F N hn ho rfl trivial (fun _ hp => nomatch hp) (fun z h1 _ h3 => hr z h1 h3) trivial
end Mine
namespace Mine
theorem slice_init {prog : Program} {w : World} {A : Around} {E : Value → Shared → Prop} {h₀ hh : Heap} {L l : Addr} {m : Str → Option Value} {news : List (Addr × Obj)} {value slice : PySem.Expr} {vs : List Value} {ns : List Int} {y : Int} {t : Tok} {Q : Value → Shared → Prop} {gn : Array GenState} {dr : Drawn} {tk : Nat} {os : OsState}
    (F : Fr h₀ L hh m) (N : News h₀ L hh news) (hl : hh.IsList l vs.toArray) (hi : IntsAre vs ns) (hy : y < 0) (hz : ns.length ≤ 1000000)
    (h : ∀ D ws h', Fr h₀ L h' m → News h₀ L h' ((D, listOf (List.toArray ws) 0) :: news) → (∀ p ∈ news, p.1 < D) → IntsAre ws (ns.take (ns.length - (-y).toNat)) → Q (.ref D) ⟨h', gn, dr, tk, os⟩)
    (hs : subscripted slice false (.ref l) (.ref hh.objs.size) = operate [.ref hh.objs.size, .ref l] (getItem (.ref l) (.ref hh.objs.size))) (ht : ∀ r, letTemporaryGo value (.ref l) r = pure ()) :
    wpAny (model prog w) A (subscriptTail value slice (.ref l) (.ref hh.objs.size)) Q E ⟨hh.push { cls := .type "slice", data := .fields #[.none, .int y t, .none] }, gn, dr, tk, os⟩ :=
  kmk_slice_ints (s := ⟨hh, gn, dr, tk, os⟩) F N hl .none (.int y t) hi (kmk_upto_neg hi hy) rfl (fun D ws h' F' N' l1 hI _ _ => h D ws h' F' N' l1 hI) hs ht (by rw [List.size_toArray, hi.length, PySem.sizeLine_eq]; omega)
end Mine
-- G1
open PySem PySem.W PyProof.Rows PySem.Calls PySem.Spec
namespace Mine
section
variable {prog : Program} {w : World} {A : Around} {E : Value → Shared → Prop} {s : Shared}
theorem lt_ber {p q l b : Addr} {x y : Int} {t u : Tok} {xs ys : List Value} {Q : Value → Shared → Prop} (hx : IntsAre xs (ber x)) (hy : IntsAre ys (ber y)) (bx : 0 ≤ x ∧ x < 2 ^ 31) (by_ : 0 ≤ y ∧ y < 2 ^ 31) (hp : s.heap.IsTuple p #[.int ((ber x).length : Int) t, .ref l]) (hq : s.heap.IsTuple q #[.int ((ber y).length : Int) u, .ref b])
    (hl : s.heap.IsList l xs.toArray) (hb : s.heap.IsList b ys.toArray) (hu : A.units + 200 < cLine)
    (h : Q (.bool (decide (x < y))) s) : wpAny (model prog w) A (compareOp .Lt (.ref p) (.ref q)) Q E s := by
  refine lt_tuple_pair hp hq hl hx hb hy hu ?_
  rw [show ltP ((ber x).length : Int) ((ber y).length : Int) (ber x) (ber y) = decide (x < y) from ber_order bx.1 (by omega) by_.1 (by omega)]
  exact h
end
set_option maxHeartbeats 8000000 in
theorem groupsRight_c (w : World) (l : Addr) (n0 n1 n2 n3 c : Int) (t0 t1 t2 t3 t : Tok) (h0 : 0 ≤ n0 ∧ n0 < 2 ^ 31) (h1 : 0 ≤ n1 ∧ n1 < 2 ^ 31) (h2 : 0 ≤ n2 ∧ n2 < 2 ^ 31) (h3 : 0 ≤ n3 ∧ n3 < 2 ^ 31) (hc : 0 ≤ c) (hc2 : c < 128) :
    PCall w 50 211 [.ref l, .int c t] (fun h => h.IsList l #[.int n0 t0, .int n1 t1, .int n2 t2, .int n3 t3]) (fun _ _ r => r = .bool true) := by
  have hB9 : ∀ n ∈ [n0, n1, n2, n3], 0 ≤ n ∧ n < 2 ^ 31 := four_all h0 h1 h2 h3
  have hen9 : ∀ n ∈ [n0, n1, n2, n3], 0 < (ber n).length ∧ (ber n).length ≤ 100 := fun n hn => ⟨ber_pos n, by have := ber_len (n := n) (by have := hB9 n hn; omega); omega⟩
  have hok9 : ∀ n ∈ [n0, n1, n2, n3], BerOk n := fun n hn => ber_ok (hB9 n hn).1 (hB9 n hn).2
  have hNx9 : ∀ n, 0 < n → ber (128 * n + c) = List.take ((ber n).length - 1) (ber n) ++ [(ber n).getD (-1 + ((ber n).length : Int)).toNat 0 + 128, c] := fun n hn => ber_next2 hn hc hc2
  have hI4 : IntsAre [.int n0 t0, .int n1 t1, .int n2 t2, .int n3 t3] [n0, n1, n2, n3] := .cons _ _ (.cons _ _ (.cons _ _ (.cons _ _ .nil)))
  unfold PCall prg
  k_fill
  intro mean mg mb dp un gd cn cs aC ccd cl outer A₀ base h₀ L m s Q E hB hF hX hT hK hDp hUn hpre hret
  refine wpAny_call ?_
  k_with_none
  k_with "op line" => (intro opX opE; (try simp only [bitAnd_m1, bitAnd_m4, bitAnd_m6, bitAnd_m7, bitAnd_m8, Int.reduceToNat, Int.reducePow] at opE))
  k_with "binaryOp BitAnd int int" => (k_here; (fail_if_success (with_reducible show wpAny _ _ (binaryOp _ (Value.int (OfNat.ofNat _) _) (Value.int (OfNat.ofNat _) _)) _ _ _)); (with_reducible refine o_and ?_); walk_at "op line")
  k_with "inplaceOp BitAnd int int" => (k_here; (fail_if_success (with_reducible show wpAny _ _ (inplaceOp _ (Value.int (OfNat.ofNat _) _) (Value.int (OfNat.ofNat _) _)) _ _ _)); (with_reducible refine o_iand ?_); walk_at "op line")
  k_with "binaryOp BitOr int int" => (k_here; (fail_if_success (with_reducible show wpAny _ _ (binaryOp _ (Value.int (OfNat.ofNat _) _) (Value.int (OfNat.ofNat _) _)) _ _ _)); (with_reducible refine o_or ?_); walk_at "op line")
  k_with "inplaceOp BitOr int int" => (k_here; (fail_if_success (with_reducible show wpAny _ _ (inplaceOp _ (Value.int (OfNat.ofNat _) _) (Value.int (OfNat.ofNat _) _)) _ _ _)); (with_reducible refine o_ior ?_); walk_at "op line")
  k_with "binaryOp RShift int int" => (k_here; (fail_if_success (with_reducible show wpAny _ _ (binaryOp _ (Value.int (OfNat.ofNat _) _) (Value.int (OfNat.ofNat _) _)) _ _ _)); (with_reducible refine o_rsh ?zq9kb1 ?_); (case zq9kb1 => l_bnd); walk_at "op line")
  k_with "inplaceOp RShift int int" => (k_here; (fail_if_success (with_reducible show wpAny _ _ (inplaceOp _ (Value.int (OfNat.ofNat _) _) (Value.int (OfNat.ofNat _) _)) _ _ _)); (with_reducible refine o_irsh ?zq9kb1 ?_); (case zq9kb1 => l_bnd); walk_at "op line")
  k_with "binaryOp LShift int int" => (k_here; (fail_if_success (with_reducible show wpAny _ _ (binaryOp _ (Value.int (OfNat.ofNat _) _) (Value.int (OfNat.ofNat _) _)) _ _ _)); (with_reducible refine o_lsh ?zq9kb1 ?zq9kb2 ?zq9kb3 ?_); (case zq9kb1 => l_bnd); (case zq9kb2 => l_bnd); (case zq9kb3 => l_bnd); walk_at "op line")
  k_with "pure enter" => (refine' code_pure ?zq9k1 ?zq9k2 ?zq9k3 ?zq9k5 ?zq9kA ?zq9kF ?zq9kK ?zq9k6 ?zq9k7 ?zq9k8 ?zq9k9 ?zq9kB ?_ ?zq9c2 ?zq9c3 ?zq9c4 ?zq9c5; (case zq9kA => exact rfl); (case zq9kF => exact rfl); (case zq9kK => assumption); (case zq9k1 => k_asm); (case zq9k2 => k_asm); (case zq9k3 => k_asm); (case zq9k5 => k_asm); (case zq9k6 => k_is); (case zq9k7 => k_is); (case zq9k8 => ktr_room); (case zq9k9 => exact BindsTo.of_eq rfl); (case zq9c5 => decide); (case zq9kB => exact locs rfl); (case zq9c2 => exact rfl); (case zq9c3 => exact rfl); (case zq9c4 => exact rfl); k_whole; intro L' h' F' N' B' X' T'; (try dsimp only); (try k_lift B'); (try k_fold))
  k_with "passes own line" => (with_reducible exact PySem.PassesOwn.leaving)
  k_with "kst facts1 line" => (first | with_reducible assumption | ((repeat (with_reducible refine IntsAre.cons _ _ ?_)); with_reducible exact IntsAre.nil) | exact IntsAre.append (by with_reducible assumption) (by with_reducible assumption) | exact IntsAre.append (by kst_facts1) (IntsAre.cons _ _ IntsAre.nil) | exact IntsAre.append (by kst_facts1) (IntsAre.cons _ _ (IntsAre.cons _ _ (IntsAre.cons _ _ IntsAre.nil))))
  k_with "sz" => ((try law_lens); (try simp only [List.size_toArray, Array.size_append, Array.size_push, Array.length_toList, List.length_append, List.length_cons, List.length_nil, List.length_reverse, List.length_map, PySem.sizeLine_eq] at *); omega)
  k_with "call builtin:list.reverse" => (k_here; (with_reducible show wpAny _ _ (call (Value.builtin _) [Value.ref _]) _ _ _); k_dflt (refine' kl_reverse ?zq9F ?zq9N ?zq9e ?zq9U ?zq9z ?_; (case zq9F => k_asm); (case zq9N => k_asm); (case zq9e => exact rfl); (case zq9U => k_upd); (case zq9z => walk_at "sz")); intro h' F' N'; (try k_sweep))
  k_with "all and" => ((repeat' (with_reducible apply And.intro)) <;> first | trivial | assumption | omega)
  k_with "exec While Compare cons nil" => (k_dflt (k_extra "while"))
  k_with "exec While BoolOp cons nil" => (k_dflt (k_extra "while"))
  k_with "exec While" => (k_dflt (k_extra "while"))
  k_with "use side" => ((case k1 => k_asm); (case k2 => k_asm); (case k3 => k_asm); (case k4 => k_asm); (case k5 => k_asm); (case kK => first | exact rfl | assumption); (case kd => ktr_room); (case ku => ktr_units))
  k_with "use new" => ((try simp only [AllNe, and_true] at l1); (try k_sweep); (try dsimp only); (try k_fold))
  k_with "is list" => first | exact trivial | assumption | exact News.isList (by k_asm) (by k_mem) | exact stays_list (Fr.keep (by k_asm)) (by assumption)
  k_with "call ref" => (k_dflt (k_extra "call"))
  k_with "exec Raise some none" => (k_dflt (exfalso; k_extra "raise"))
  k_with "for enter" => (ktd_said "for"; k_here; (rename Fr _ _ _ _ => lF'); (with_unfolding_all refine' For_invVF lF' ?zq9k1 ?zq9k2 ?_; (case zq9k1 => exact rfl); (case zq9k2 => exact rfl); k_whole))
  k_with "exec For Name Subscript cons nil" => (k_dflt (walk_at "for enter"))
  k_with "exec For Name Name cons nil" => (k_dflt (walk_at "for enter"))
  k_with "exec For Name Call cons nil" => (k_dflt (walk_at "for enter"))
  k_with "pyIter ref" => (k_dflt (k_extra "for"))
  k_with "exec Raise some none" => (k_dflt (k_extra "raise die"))
  k_with "turn enter" => (refine' code_turn ?zq9k1 ?zq9k2 ?zq9k3 ?zq9k5 ?zq9kD ?zq9kA ?zq9kF ?zq9kK ?zq9k6 ?zq9k7 ?zq9k8 ?zq9k9 ?zq9kB ?_ ?zq9c2 ?zq9c3 ?zq9c4 ?zq9c5; (case zq9kA => exact rfl); (case zq9kF => exact rfl); (case zq9kK => assumption); (case zq9k1 => k_asm); (case zq9k2 => k_asm); (case zq9k3 => k_asm); (case zq9k5 => k_asm); (case zq9kD => k_asm); (case zq9k6 => k_is); (case zq9k7 => k_is); (case zq9k8 => ktr_room); (case zq9k9 => exact BindsTo.of_eq rfl); (case zq9c5 => decide); (case zq9kB => exact locs rfl); (case zq9c2 => exact rfl); (case zq9c3 => exact rfl); (case zq9c4 => exact rfl); k_whole; intro L' h' F' N' B' X' T' D'; (try dsimp only); (try k_lift B'); (try k_fold))
  k_with "LeaveT" => (k_dflt (refine' leaveT_ ?zq9T9 ?zq9F9 ?_; (case zq9F9 => k_asm); (case zq9T9 => first | exact KtsTurn.refl | assumption)); intro tT; (try dsimp only))
  k_with "new pair" => (intro l' t' u' h' tk' F' N' l1; (try simp only [AllNe, and_true] at l1); (try k_sweep); (try dsimp only); (try k_fold))
  k_with "new ints" => (intro l' vs' n' h' tk' F' N' l1 hI'; (try simp only [AllNe, and_true] at l1); (try k_sweep); (try dsimp only); (try k_fold))
  k_with "grow turn" => (intro gVs gNs gK gPre gT gU gH gTk gI gIt gLt gCls l1 gIs gP gF gN; (try k_lt l1); have kM := kstMark; (try k_fold))
  k_with "grow done" => (intro gVs gNs gK gU gH gTk gI gP gF gN; have kM := kstMark; (try k_fold))
  k_with "eval Call" => (ktd_said "call"; k_here; k_dflt (refine Call_ ?_))
  k_with "new int" => (intro u' h' tk' F' N'; (try k_sweep); (try dsimp only); (try k_fold))
  k_with "eval BinOp" => (k_dflt (k_extra "fact"))
  k_with "new bool" => (intro h' tk' F' N'; (try k_sweep); (try dsimp only); (try k_fold))
  k_with "call builtin:list.extend" => (k_here; (with_reducible show wpAny _ _ (call (Value.builtin _) [Value.ref _, Value.ref _]) _ _ _); k_dflt (refine' my_extend ?zq9F ?zq9N ?zq9b ?zq9U ?zq9ne ?zq9z ?_; (case zq9F => k_asm); (case zq9N => k_asm); (case zq9b => k_mem); (case zq9U => k_upd); (case zq9ne => walk_at "sz"); (case zq9z => walk_at "sz")); intro h' F' N'; (try k_sweep))
  k_with "op line" => (intro opX opE; (try simp only [bitAnd_m1, bitAnd_m4, bitAnd_m6, bitAnd_m7, bitAnd_m8, Int.reduceToNat, Int.reducePow] at opE); (try k_dflt (k_extra "op")))
  k_with "call builtin:min" => ((with_reducible show wpAny _ _ (call (Value.builtin _) [Value.int _ _, Value.int _ _]) _ _ _); ktd_said "min"; (with_reducible rename News _ _ _ _ => N'); (with_unfolding_all apply min_two_N); (case hh => with_unfolding_all rfl); (case N => exact N'); (case F => assumption); clear N'; intro _ _ _ _; k_dflt (k_extra "min"))
  k_with "kmk size line" => ((refine kmk_sz (by l_ints) ?_; rw [PySem.sizeLine_eq]; omega))
  k_with "InvEndN" => (k_dflt kst_close)
  k_with "ite" => (k_here; k_closed; k_dflt (first | refine ite_pos (by decide) ?_ | refine ite_neg (by decide) ?_))
  k_with "sz" => ((simp only [List.size_toArray, Array.size_append, Array.size_push, Array.length_toList, List.length_append, List.length_cons, List.length_nil, List.length_reverse, List.length_map, PySem.sizeLine_eq]); first | omega | (law_lens; omega))
  k_with "kmk nums line" => (first | ((with_reducible refine' kmk_run ?zq9ka ?zq9kb ?zq9kc); (case zq9ka => l_ints); (case zq9kb => kmk_sign); (case zq9kc => kmk_sign)) | ((with_reducible refine' kmk_from ?zq9ka ?zq9kb); (case zq9ka => l_ints); (case zq9kb => kmk_sign)) | ((with_reducible refine' kmk_upto ?zq9ka ?zq9kb); (case zq9ka => l_ints); (case zq9kb => kmk_sign)) | ((with_reducible refine' kmk_upto_neg ?zq9ka ?zq9kb); (case zq9ka => l_ints); (case zq9kb => kmk_sign)))
  k_with "k ne line" => ((refine neN ?_; (try dsimp only); with_reducible first | assumption | exact Ne.symm (by assumption) | exact Nat.ne_of_lt (by assumption) | exact Nat.ne_of_gt (by assumption)))
  k_with "x close line" => ((rename DieRet _ _ => hr9); (rename Mem _ _ _ _ => hD9); refine' die_use hr9 hD9 ⟨_, _, ?zq9hm⟩; (case zq9hm => (repeat (first | exact List.Mem.head _ | refine List.Mem.tail _ ?_))))
  k_with "execs cons" => ((with_reducible refine Mine.execs_seq ?_); intro qk)
  k_with "newList" => (k_here; (with_reducible rename PyProof.Rows.CarriedAll _ (List.map PyData.int (List.filter _ _)) => cC9); (with_reducible rename Heap.IsList _ _ _ => iL9); k_dflt (refine' newList_K3 ?zq9k1 ?zq9k2 iL9 ?_; (case zq9k1 => k_asm); (case zq9k2 => k_asm); k_whole); clear iL9; intro l' h' F' N' l1 iL8; (try k_lt l1); (try k_sweep))
  k_with "compareOp NotEq ref ref" => (k_dflt (k_extra "ne"))
  k_with "CompRest" => (with_unfolding_all (refine LCg.CompRest.succ ?_; intro v' I' oI' C' oC' D' m' h' tk' E' hv' hC' hx' F' N' off' ne'; (first | lcg_open hv' | (obtain ⟨t9', hv9'⟩ := hv'; subst hv9')); (try simp only [LCg.Off3, and_true] at off'); (have := ne'.1; have := ne'.2.1; have := ne'.2.2); (repeat (have := off'.1.1; have := off'.1.2.1; have := off'.1.2.2; replace off' := off'.2)); (try (have := off'.1; have := off'.2.1; have := off'.2.2))))
  k_with "new ints" => (intro l' vs' n' h' tk' F' N' l1 hI'; (try simp only [AllNe, and_true] at l1); (repeat (have := l1.1; replace l1 := l1.2)); (try k_sweep); (try dsimp only); (try k_fold))
  k_with "rows turn" => (intro gVs gNs gK gPre gQ gWs gNq gN gU gH gTk gOwn gLt gNth gMem gI gLen gNe gOff gIs gAcc gGl gF gNw; (try simp only [List.cons_append, List.nil_append] at gNw); have kM := kstMark; (try k_fold))
  k_with "rows done" => (intro gVs gNs gK gU gH gTk gIs gAcc gF gNw; (have gE := gAcc.done); subst gE; clear gAcc; have kM := kstMark; (try k_fold))
  k_with "still turn" => (intro sK sPre sT sU sH sTk sOwn sLo sHi sOff sF sN; (try simp only [List.cons_append, List.nil_append] at sN); have kM := kstMark; (try k_fold))
  k_with "still done" => (intro sU sH sTk sF sN; have kM := kstMark; (try k_fold))
  k_with "subscriptTail Name Name ref int" => (k_dflt (k_extra "item"))
  k_with "item done" => (intro iR iWs iN iNews iI; (try k_fold))
  k_with "compareOp Lt ref ref" => (k_dflt (k_extra "lt"))
  k_with "eval ListComp" => (k_dflt (k_extra "comp"))
  k_with "memR" => with_reducible first | exact List.mem_cons_self | (refine List.mem_cons_of_mem _ ?_; walk_at "memR")
  k_with "rows are" => (refine RowsAre.cons (by walk_at "memR") (by with_reducible assumption) ?_; refine RowsAre.cons (by walk_at "memR") (by with_reducible assumption) ?_; refine RowsAre.cons (by walk_at "memR") (by with_reducible assumption) ?_; refine RowsAre.cons (by walk_at "memR") (by with_reducible assumption) ?_; exact RowsAre.nil)
  k_with "sub" => ((repeat ((with_reducible refine List.forall_mem_cons.mpr (And.intro ?_ ?_)); (next => walk_at "memR"))); first | with_reducible exact List.forall_mem_nil _ | walk_at "sub rest")
  k_with "sub" => ((repeat (with_reducible (fail_if_success exact Mine.sub_same); refine Mine.sub_more ?_)); with_reducible exact Mine.sub_same)
  k_with "sub rest" => (intro p hp; (repeat (with_reducible refine List.mem_cons_of_mem _ ?_)); first | with_reducible exact hp | with_reducible exact List.mem_append_left _ hp)
  k_with "own" => (intro p hp; (repeat (with_reducible refine List.mem_cons_of_mem _ ?_)); first | with_reducible exact hp | with_reducible exact List.mem_append_right _ hp)
  k_with "same" => (intro z h2 h3; first | ((simp only [List.contains_cons, List.contains_nil, Bool.or_false, Bool.or_eq_false_iff, beq_eq_false_iff_ne, ne_eq] at h3); (simp only [h2, h3, if_false, List.contains_cons, List.contains_nil, Bool.or_false, beq_iff_eq, Bool.false_eq_true]; done)) | rfl)
  k_with "InvEndN" => ((with_reducible show InvEndN _ _ (KstS (fun _ : Unit => _) _ _ _ _ _ _ _) _ _ _ _); k_dflt (refine still_end (by k_asm) (by k_asm) (by walk_at "sub") (by walk_at "own") (by walk_at "same")))
  k_with "slice init" => (k_here; k_dflt (refine' slice_init ?zq9F ?zq9N ?zq9l ?zq9i ?zq9y ?zq9z ?_ ?zq9s ?zq9t; (case zq9F => k_asm); (case zq9N => k_asm); (case zq9l => kmk_list); (case zq9i => l_ints); (case zq9y => decide); (case zq9z => omega); (case zq9s => with_unfolding_all rfl); (case zq9t => kmk_pure)); intro D' ws' h' F' N' l1 hI'; (try simp only [Int.reduceNeg, Int.neg_neg, Int.reduceToNat] at hI'); (try k_lt l1); (try k_sweep))
  k_with "subscriptTail Subscript Name Name Slice ref ref" => (walk_at "last subscriptTail"; walk_at "slice init")
  k_with "subscriptTail Subscript Name Name UnaryOp ref int" => (walk_at "last subscriptTail"; k_here; (with_unfolding_all refine' item_list_ints_neg ?zq9k1 ?zq9k2 ?zq9k3 ?zq9k4 ?zq9k5 ?_; (case zq9k1 => is_list); (case zq9k2 => l_ints); (case zq9k3 => omega); (case zq9k4 => omega); (case zq9k5 => omega); k_whole); intro _)
  k_with "call type:range" => (k_here; (simp only [Nat.reduceAdd, Int.cast_ofNat_Int]); walk_at "call type:range")
  k_dflt walk_at "pure enter"
  (k_with "comp" => (k_here; lcg_look; ((refine LCg.ListComp_U (F₀ := by k_asm) (by rfl) (by decide) (by rfl) (by decide) (by rfl) ?_); lcg_toSrc)))
  (k_with "call" => (first
    | ((refine' use_ints (ber_c w _ _ ?c1 ?c2) ?k1 ?k2 ?k3 ?k4 ?k5 ?kK ?kd ?ku ?kp ?_); (case kp => trivial); (case c1 => omega); (case c2 => omega); walk_at "use side"; walk_at "new ints")
    | ((rename IntsAre _ (flat ber _) => hI9); (refine' use_ints (read_bers w _ _ _ hI9 ?c1 ?c2 ?c3) ?k1 ?k2 ?k3 ?k4 ?k5 ?kK ?kd ?ku ?kp ?_); walk_at "use side"; (case kp => walk_at "is list"); (case c1 => exact Nat.le_trans (flat_len hen9) (show 100 * 4 ≤ 1000000 by decide)); (case c2 => (intro n hn; have := hB9 n hn; omega)); (case c3 => exact (show 4 ≤ 1000 by decide)); walk_at "new ints")))
  (k_with "for" => (first
    | ((rename IsRange _ _ _ _ _ _ _ _ => hr9); (rename News _ _ _ _ => hN9); (rename Fr _ _ _ _ => hF9); (with_unfolding_all refine' still_range (n := 4) [Str.ofString "other"] rfl hr9 ?_ (by decide) hF9 hN9 ?_ ?_); (first | rfl | omega); rotate_left; (walk_at "still done"); rotate_right; (walk_at "still turn"; (have hb8 := four_at hB9 _ (by assumption) (by assumption)); (have hl8 := four_at hen9 _ (by assumption) (by assumption))))
    | ((rename News _ _ _ _ => hN9); (rename Fr _ _ _ _ => hF9); (with_unfolding_all refine' each_rows (enc := ber) (nums := [n0, n1, n2, n3]) [] rfl hF9 (fun p hp => hN9 p (List.Mem.tail _ hp)) ?rr ?rR ?rN hen9 ?rT ?rD); (case rr => k_mem); (case rR => (walk_at "rows are")); (case rN => k_all); (case' rD => walk_at "rows done"); (case' rT => (walk_at "rows turn"; (rename _ ∈ [n0, n1, n2, n3] => hm9); (obtain ⟨hl8, hh8, hm8⟩ := hok9 _ hm9); (have hp8 := hen9 _ hm9))))))
  (k_with "ne" => first
    | ((rename CarriedAll _ (List.map PyData.int _) => hC9); ((have hC8 := carried_nil hC9 (by assumption)); clear hC9; subst hC8; have hI4 := IntsAre.nil))
    | ((rename IntsAre _ (ber (128 * _ + c)) => hq9); (rw [hNx9 _ (by assumption)] at hq9)))
  (k_with "lt" => ((refine' lt_ber ?a1 ?a2 ?a3 ?a4 ?a5 ?a6 ?a7 ?a8 ?a9 ?_); (case a5 => kun_tup); (case a6 => kun_tup); (case a7 => kmk_list); (case a8 => kmk_list); (case a1 => with_reducible assumption); (case a2 => with_reducible assumption); (case a3 => omega); (case a4 => omega); (case a9 => first | ke_room | (show _ + 200 < cLine; omega))))
  (k_with "item" => (first
    | ((refine' item_anyK ?k1 hI4 ?k3 ?k4 ?k5 ?_ ?k6); (case k1 => is_list); (case k3 => omega); (case k4 => (show _ < ((4 : Nat) : Int); omega)); (case k5 => omega); (case k6 => with_unfolding_all rfl); intro _; (try k_fold))
    | ((rename News _ _ _ _ => hN9); (refine' row_item (enc := ber) (nums := [n0, n1, n2, n3]) hN9 ?im ?iR ?i0 ?i1 ?i2 ?_ ?is); (case im => k_mem); (case iR => (walk_at "rows are")); (case i0 => omega); (case i1 => (show _ < ((4 : Nat) : Int); omega)); (case i2 => exact (show 4 < 1000000 by decide)); (case is => with_unfolding_all rfl); intro iR iWs iN iNews iI; (try k_fold))))
  (k_with "state" => (exact AccInv.turn (by assumption) (by assumption) (by rw [List.length_append]; rfl) (hen9 _ (by assumption)).2))
  (repeat' (first | ((with_reducible first | refine Mine.seq_nil ?_ | refine Mine.seq_next ?_ | refine Mine.seq_ret ?_); (try dsimp only)) | (k_unfold; (try dsimp only)) | (k_end; kc_close) | walk1 | (dsimp only; walk1) | (leave1; walk_say "STEP leave1"; try dsimp only) | fail "no step"))
  all_goals (first
    | exact pcall_ret hret (by assumption) rfl
    | (exfalso; exact absurd (by assumption) hh8)
    | (exfalso; exact Bool.false_ne_true ((bne_self_eq_false _).symm.trans (by assumption))))
end Mine
-- Ct
open PySem PySem.W PyProof.Rows PySem.Calls PySem.Spec PyProof.Rows.LCg
namespace Mine
/-- the caller's ground, its frames' slots turned -/
structure Grd (K : Frag) (p : Program) (loose : List Str) (mean : ExcName → Option Value) (mg mb : Str → Option Value) (A₀ : Around) (base : Heap) (outer : List Env) (h₀ : Heap) (L : Addr) (h : Heap) (m : Str → Option Value) (news : List (Addr × Obj)) (g : Heap) : Prop where
  turn : KtsTurn (outer.filterMap (·.frame)) h₀ g
  fr : Fr g L h m
  nw : News g L h news
  below : Below A₀ base outer g
  inn : K.In g
  top : Top p loose mean mg mb g
  dicts : KtsDicts (outer.filterMap (·.frame)) g
section
variable {K : Frag} {p : Program} {loose : List Str} {mean : ExcName → Option Value} {mg mb : Str → Option Value} {A₀ : Around} {base : Heap} {outer : List Env} {h₀ : Heap} {L : Addr} {m : Str → Option Value} {news : List (Addr × Obj)}
theorem Grd.to {h h' g : Heap} {news' : List (Addr × Obj)} (G : Grd K p loose mean mg mb A₀ base outer h₀ L h m news g) (F : Fr g L h' m) (N : News g L h' news') : Grd K p loose mean mg mb A₀ base outer h₀ L h' m news' g :=
  ⟨G.turn, F, N, G.below, G.inn, G.top, G.dicts⟩
variable {prog : Program} {w : World} {A : Around} {E : Value → Shared → Prop} {s : Shared} {env : Env}
/-- the end of a turn whose test is false -/
inductive NoneEnd (K : Frag) (p : Program) (loose : List Str) (mean : ExcName → Option Value) (mg mb : Str → Option Value) (A₀ : Around) (base : Heap) (outer : List Env) (h₀ : Heap) (L : Addr) (m : Str → Option Value) (all : List (Addr × Obj)) (s₁ : Shared) : Bool → Shared → Prop
  | mk (h' : Heap) (tk' : Nat) (g : Heap) : Grd K p loose mean mg mb A₀ base outer h₀ L h' m all g → NoneEnd K p loose mean mg mb A₀ base outer h₀ L m all s₁ false { s₁ with heap := h', toks := tk' }
/-- between two turns of such a loop -/
inductive BlockI (K : Frag) (p : Program) (loose : List Str) (mean : ExcName → Option Value) (mg mb : Str → Option Value) (A₀ : Around) (base : Heap) (outer : List Env) (h₀ : Heap) (L : Addr) (m : Str → Option Value) (news : List (Addr × Obj)) (I D C : Addr) (n : Nat) (s₂ : Shared) : Nat → Shared → Prop
  | mk (h' : Heap) (tk i : Nat) (m' : Str → Option Value) (g : Heap) : i ≤ n → IsRangeIter h' I (0 + (i : Nat) * 1) ((n : Int) - (i : Nat)) 1 → h'.Ns C m' → Grd K p loose mean mg mb A₀ base outer h₀ L h' m ((D, lst []) :: news) g →
      BlockI K p loose mean mg mb A₀ base outer h₀ L m news I D C n s₂ (n + 1 - i) { s₂ with heap := h', toks := tk }
inductive NoneSrc (K : Frag) (p : Program) (loose : List Str) (mean : ExcName → Option Value) (mg mb : Str → Option Value) (A₀ : Around) (base : Heap) (outer : List Env) (h₀ : Heap) (L : Addr) (m : Str → Option Value) (prog : Program) (w : World) (A : Around) (env : Env) (ct : PySem.Expr) (x : Str) (scope : Scope) (cl : List (Str × Addr)) (Q : Value → Shared → Prop) : Value → Shared → Prop
  | mk (r : Addr) (t u v : Tok) (n : Nat) (news : List (Addr × Obj)) (s₁ : Shared) (g : Heap) : A.handled = none → Grd K p loose mean mg mb A₀ base outer h₀ L s₁.heap m news g → IsRange s₁.heap r 0 ((n : Nat) : Int) 1 t u v → n ≤ 1000000 →
    (∀ g (i : Nat) t I oI C oC D m₂ h tk (E' : Value → Shared → Prop), i < n → Grd K p loose mean mg mb A₀ base outer h₀ L h m ((I, oI) :: (C, oC) :: (D, lst []) :: news) g → NsObj oC m₂ → m₂ x = some (.int (i : Int) t) → Off3 I C D news → ((@Ne Nat I C) ∧ (@Ne Nat I D) ∧ (@Ne Nat C D)) →
      wpAny (model prog w) A (isTrue ct (compEnvC scope cl C env) (eval ct (compEnvC scope cl C env))) (NoneEnd K p loose mean mg mb A₀ base outer h₀ L m ((I, oI) :: (C, oC) :: (D, lst []) :: news) { s₁ with heap := h, toks := tk }) E' { s₁ with heap := h, toks := tk }) →
    (∀ g D h tk, Grd K p loose mean mg mb A₀ base outer h₀ L h m ((D, lst []) :: news) g → Off1 D news → Q (.ref D) { s₁ with heap := h, toks := tk }) → NoneSrc K p loose mean mg mb A₀ base outer h₀ L m prog w A env ct x scope cl Q (.ref r) s₁

theorem NoneSrc.intro {ct : PySem.Expr} {x : Str} {scope : Scope} {cl : List (Str × Addr)} {Q : Value → Shared → Prop} {r : Addr} {b : Int} {t u v : Tok} {n : Nat} (hh : A.handled = none) (F : Fr h₀ L s.heap m) (N : News h₀ L s.heap news) (B : Below A₀ base outer h₀) (X : K.In h₀) (T : Top p loose mean mg mb h₀) (D : KtsDicts (outer.filterMap (·.frame)) h₀)
    (hr : IsRange s.heap r 0 b 1 t u v) (hb : b = ((n : Nat) : Int)) (hsz : n ≤ 1000000)
    (turn : ∀ g (i : Nat) t I oI C oC D m₂ h tk (E' : Value → Shared → Prop), i < n → Grd K p loose mean mg mb A₀ base outer h₀ L h m ((I, oI) :: (C, oC) :: (D, lst []) :: news) g → NsObj oC m₂ → m₂ x = some (.int (i : Int) t) → Off3 I C D news → ((@Ne Nat I C) ∧ (@Ne Nat I D) ∧ (@Ne Nat C D)) →
      wpAny (model prog w) A (isTrue ct (compEnvC scope cl C env) (eval ct (compEnvC scope cl C env))) (NoneEnd K p loose mean mg mb A₀ base outer h₀ L m ((I, oI) :: (C, oC) :: (D, lst []) :: news) { s with heap := h, toks := tk }) E' { s with heap := h, toks := tk })
    (done : ∀ g D h tk, Grd K p loose mean mg mb A₀ base outer h₀ L h m ((D, lst []) :: news) g → Off1 D news → Q (.ref D) { s with heap := h, toks := tk }) :
    NoneSrc K p loose mean mg mb A₀ base outer h₀ L m prog w A env ct x scope cl Q (.ref r) s :=
  .mk r t u v n news s h₀ hh ⟨KtsTurn.refl, F, N, B, X, T, D⟩ (hb ▸ hr) hsz turn done
theorem NoneEnd.intro {all all' : List (Addr × Obj)} {g h' : Heap} {tk' : Nat} (F : Fr g L h' m) (N : News g L h' all') (T₀ : KtsTurn (outer.filterMap (·.frame)) h₀ g) (sub : ∀ q, q ∈ all → q ∈ all') (B : Below A₀ base outer g) (X : K.In g) (T : Top p loose mean mg mb g) (D : KtsDicts (outer.filterMap (·.frame)) g) {ok : Bool} (hok : ok = false) :
    NoneEnd K p loose mean mg mb A₀ base outer h₀ L m all s ok { s with heap := h', toks := tk' } :=
  hok ▸ .mk h' tk' g ⟨T₀, F, fun q hq => N q (sub q hq), B, X, T, D⟩
theorem none_block {ct elt iter : PySem.Expr} {x : Str} {px : Pos} {scope : Scope} {cl : List (Str × Addr)} {pos : Pos} {s₂ : Shared} {g₀ : Heap} {I : Addr} {n : Nat} {RR : Value → Addr → Result → Shared → Prop}
    (hh : A.handled = none) (hsz : n ≤ 1000000) (hcell : ∀ y ∈ scope.names, y.2 ≠ .cell) (hkind : scope.kind = .function) (hx : scope.names.lookup x = some .local)
    (hst : IsRangeIter s₂.heap I (0 + (0 : Nat) * 1) ((n : Int) - (0 : Nat)) 1) (hI : I < s₂.heap.objs.size) (G₀ : Grd K p loose mean mg mb A₀ base outer h₀ L s₂.heap m news g₀) (hIL : L ≠ I) (hI₀ : h₀.get? I = none) (off : ∀ q ∈ news, q.1 ≠ I)
    (turn : ∀ g (i : Nat) t I oI C oC D m₂ h tk (E' : Value → Shared → Prop), i < n → Grd K p loose mean mg mb A₀ base outer h₀ L h m ((I, oI) :: (C, oC) :: (D, lst []) :: news) g → NsObj oC m₂ → m₂ x = some (.int (i : Int) t) → Off3 I C D news → ((@Ne Nat I C) ∧ (@Ne Nat I D) ∧ (@Ne Nat C D)) →
      wpAny (model prog w) A (isTrue ct (compEnvC scope cl C env) (eval ct (compEnvC scope cl C env))) (NoneEnd K p loose mean mg mb A₀ base outer h₀ L m ((I, oI) :: (C, oC) :: (D, lst []) :: news) { s₂ with heap := h, toks := tk }) E' { s₂ with heap := h, toks := tk })
    (hRR : ∀ g D C h tk m', Grd K p loose mean mg mb A₀ base outer h₀ L h m ((D, lst []) :: news) g → Off1 D news → h.Ns C m' → g.get? C = none → C ≠ L → C ≠ D → (∀ q ∈ news, q.1 ≠ C) → RR (.ref D) C (.ok .next) { s₂ with heap := h, toks := tk }) :
    wpAny (model prog w) A (newList []) (fun acc s₃ => wpAny (model prog w) A (newFunctionEnv scope env.globals cl [] env.qual none .none (some env)) (fun cenv s₄ =>
      codeAny (model prog w) A (.compStart (.ListComp elt [⟨.Name x px, iter, [ct], 0⟩] scope pos) 0 (.ref I) acc { cenv with scope := relabel scope env }) (RR acc cenv.locals) s₄) E s₃) E s₂ := by
  have F := G₀.fr
  have N := G₀.nw
  have W := range_walks (prog := prog) (w := w) (I := I) hh 0 n
  refine wpAny_newObj_type (wpAny_newFunctionEnv hcell (by intro y hy; simp at hy) (fun h₁ hns₁ hsb₁ => ?_) hkind)
  dsimp only at hns₁ hsb₁ ⊢
  generalize hH2 : s₂.heap.push { cls := .type "list", dict := none, data := .seq ([] : List Value).toArray } = H2 at hns₁ hsb₁ ⊢
  have hC : H2.objs.size = s₂.heap.objs.size + 1 := by rw [← hH2, Heap.size_push]
  have hDC : s₂.heap.objs.size ≠ H2.objs.size := by rw [hC]; exact Nat.ne_of_lt (Nat.lt_succ_self _)
  have below : ∀ b, b < s₂.heap.objs.size → b ≠ H2.objs.size ∧ b ≠ s₂.heap.objs.size := fun b hb => ⟨by rw [hC]; exact Nat.ne_of_lt (Nat.lt_succ_of_lt hb), Nat.ne_of_lt hb⟩
  have old : ∀ b o, s₂.heap.get? b = some o → h₁.get? b = some o := fun b o e => hsb₁.extBut b o (below b (Heap.lt_size e)).1 (Heap.get?_push_of_some _ (hH2 ▸ Heap.get?_push_of_some _ e))
  have hacc : h₁.get? s₂.heap.objs.size = some (lst []) := hsb₁.extBut _ _ hDC (Heap.get?_push_of_some _ (hH2 ▸ Heap.get?_push_size _ rfl))
  have hst₁ : IsRangeIter h₁ I (0 + (0 : Nat) * 1) ((n : Int) - (0 : Nat)) 1 := old _ _ hst
  have fresh : ∀ a, s₂.heap.objs.size ≤ a → s₂.heap.get? a = none := fun a ha => by
    cases e : s₂.heap.get? a with
    | none => rfl
    | some o' => exact absurd (Heap.lt_size e) (Nat.not_lt.mpr ha)
  have freshG : ∀ a, s₂.heap.objs.size ≤ a → g₀.get? a = none := fun a ha => by
    cases e : g₀.get? a with
    | none => rfl
    | some o' => have := F.keep a o' e; rw [fresh a ha] at this; cases this
  have fresh₀ : ∀ a, s₂.heap.objs.size ≤ a → h₀.get? a = none := fun a ha => by
    cases e : h₀.get? a with
    | none => rfl
    | some o' => obtain ⟨_, q⟩ := G₀.turn.up e; rw [freshG a ha] at q; cases q
  have hD₀ : h₀.get? s₂.heap.objs.size = none := fresh₀ _ (Nat.le_refl _)
  have hC₀ : h₀.get? H2.objs.size = none := fresh₀ _ (by rw [hC]; exact Nat.le_succ _)
  have hLlt : L < s₂.heap.objs.size := F.ns.lt
  have hDL : s₂.heap.objs.size ≠ L := Ne.symm (below L hLlt).2
  have hCL : H2.objs.size ≠ L := Ne.symm (below L hLlt).1
  have hCI : I ≠ H2.objs.size := (below I hI).1
  have hDI : I ≠ s₂.heap.objs.size := (below I hI).2
  have off₀ : Off3 I H2.objs.size s₂.heap.objs.size news := Off3.of fun q hq => ⟨off q hq, (below _ (Heap.lt_size (N q hq).1)).1, (below _ (Heap.lt_size (N q hq).1)).2⟩
  have off3 := off₀.mem
  have loop : ∀ s₃ : Shared, s₃ = { s₂ with heap := h₁, toks := s₂.toks + ([] : List (Str × Value)).length } →
      codeAny (model prog w) A (.compLoop (.ListComp elt [⟨.Name x px, iter, [ct], 0⟩] scope pos) 0 (.ref I) (.ref s₂.heap.objs.size) (compEnvC scope cl H2.objs.size env))
        (RR (.ref s₂.heap.objs.size) H2.objs.size) s₃ := by
    rintro s₃ rfl
    refine codeAny_compLoop_tests
      (BlockI K p loose mean mg mb A₀ base outer h₀ L m news I s₂.heap.objs.size H2.objs.size n s₂) ?_ (n + 1)
      (.mk h₁ _ 0 _ g₀ (Nat.zero_le _) hst₁ hns₁ (G₀.to (F.keeps old) fun q hq => ?_))
    · intro k s' hI
      cases hI with | mk h' tk i m' g hi hst' hn' G' =>
      have F' := G'.fr
      have N' := G'.nw
      have gI := G'.turn.none_ _ hI₀
      have gC := G'.turn.none_ _ hC₀
      have gD := G'.turn.none_ _ hD₀
      have offI : ∀ q ∈ ((s₂.heap.objs.size, lst []) :: news : List (Addr × Obj)), q.1 ≠ I := fun q hq => by
        rcases List.mem_cons.mp hq with rfl | hq
        · exact Ne.symm hDI
        · exact (off3 q hq).1
      by_cases hlt : i < n
      · refine W.item i _ _ _ hlt hst' fun v h₂ tk₂ hPv hst₂ hk₂ => ?_
        obtain ⟨t, rfl⟩ := hPv
        rw [Int.zero_add]
        refine wpAny_assign_Name (wpAny_storeName_local (lookup_relabel_local hx) (hn'.at' fun o e => hk₂ _ o (by simpa using Ne.symm hCI) e) (fun h₃ hn₃ hs₃ => ?_) (by simp [compEnvC, relabel, hkind]))
        refine wpAny_tests_one ?_
        have hst₃ : IsRangeIter h₃ I (0 + ((i + 1 : Nat)) * 1) ((n : Int) - (i + 1 : Nat)) 1 := W.frame _ _ _ hst₂ fun b hb o e => hs₃.extBut b o (fun q => by have q' : b = H2.objs.size := q; exact hCI ((List.mem_singleton.mp hb).symm.trans q')) e
        obtain ⟨oC, heC, hoC⟩ := ns_obj hn₃
        have F₃ : Fr g L h₃ m := (fr_but F' hk₂ hIL gI).change hs₃ hCL gC
        have N₂ := news_but N' hk₂ offI
        have N₃ : News g L h₃ ((I, _) :: (H2.objs.size, oC) :: (s₂.heap.objs.size, lst []) :: news) := fun q hq => by
          rcases List.mem_cons.mp hq with rfl | hq
          · exact ⟨hst₃, Ne.symm hIL, gI⟩
          · rcases List.mem_cons.mp hq with rfl | hq
            · exact ⟨heC, hCL, gC⟩
            · have z := N₂ q hq
              refine ⟨hs₃.extBut _ _ ?_ z.1, z.2⟩
              rcases List.mem_cons.mp hq with rfl | hq
              · exact hDC
              · exact (off3 q hq).2.1
        refine wpAny_mono (turn g i t I _ H2.objs.size oC s₂.heap.objs.size _ h₃ _ _ hlt (G'.to F₃ N₃) hoC (by simp) off₀ ⟨hCI, hDI, Ne.symm hDC⟩) (fun ok s₄ h₄ => ?_) fun _ _ e => e
        cases h₄ with | mk h₅ tk₅ g₅ G₅ =>
        simp only [Bool.false_eq_true, if_false]
        have N₅ := G₅.nw
        have zI := (N₅ (I, _) List.mem_cons_self).1
        have zC := (N₅ (H2.objs.size, oC) (List.mem_cons_of_mem _ List.mem_cons_self)).1
        refine ⟨n + 1 - (i + 1), by omega, .mk h₅ _ (i + 1) _ g₅ hlt ?_ (hoC.ns zC) (G₅.to G₅.fr fun q hq => N₅ q (List.mem_cons_of_mem _ (List.mem_cons_of_mem _ hq)))⟩
        show h₅.get? I = some _
        exact zI
      · obtain rfl : i = n := Nat.le_antisymm hi (Nat.not_lt.mp hlt)
        refine W.done _ _ _ hst' fun h₂ tk₂ hk₂ => ?_
        exact hRR g _ _ h₂ tk₂ _ (G'.to (fr_but F' hk₂ hIL gI) (news_but N' hk₂ offI)) off₀.one (hn'.at' fun o e => hk₂ _ o (by simpa using Ne.symm hCI) e) gC hCL (Ne.symm hDC) (fun q hq => (off3 q hq).2.1)
    · rcases List.mem_cons.mp hq with rfl | hq
      · exact ⟨hacc, hDL, freshG _ (Nat.le_refl _)⟩
      · exact ⟨old _ _ (N q hq).1, (N q hq).2⟩
  exact codeAny_compStart_list (loop _ rfl) (W.self 0 _ _ _ hst₁ (loop _ rfl))

/-- a comprehension over a range whose test is never true; its calls may turn the frames' slots -/
theorem ListComp_none {ct elt iter : PySem.Expr} {x : Str} {px : Pos} {scope : Scope} {cl : List (Str × Addr)} {pos : Pos} {Q : Value → Shared → Prop}
    (_F : Fr h₀ L s.heap m) (_B : Below A₀ base outer h₀) (_X : K.In h₀) (_T : Top p loose mean mg mb h₀)
    (hclos : closureFor scope env = pure cl) (hcell : ∀ y ∈ scope.names, y.2 ≠ .cell) (hkind : scope.kind = .function)
    (hnames : ∀ y ∈ scope.names, y.2 = .local → scope.names.lookup y.1 = some .local) (hx : scope.names.lookup x = some .local)
    (h : wpAny (model prog w) A (eval iter env) (NoneSrc K p loose mean mg mb A₀ base outer h₀ L m prog w A env ct x scope cl Q) E s)
    (hs : ∀ x, foldedSetIterable iter env x = pure x) :
    wpAny (model prog w) A (eval (.ListComp elt [⟨.Name x px, iter, [ct], 0⟩] scope pos) env) Q E s := by
  rw [eval_ListComp]
  refine wpAny_comprehension_free (use := none) rfl hs hclos hkind hnames (wpAny_mono h (fun xv s₁ h₁ => ?_) fun _ _ e => e)
  cases h₁ with | mk r t u v n news s₁ g hh G hr hsz turn done =>
  have F := G.fr
  refine wpAny_pyIter_range hr (range_small (by omega) (by omega) (by omega) (by omega) (by omega) (by omega)) ?_
  have nI : h₀.get? s₁.heap.objs.size = none := by
    cases e : h₀.get? s₁.heap.objs.size with
    | none => rfl
    | some o' => obtain ⟨_, q⟩ := G.turn.up e; exact absurd (Heap.lt_size (F.keep _ _ q)) (Nat.lt_irrefl _)
  refine none_block hh hsz hcell hkind hx ?_ (by show _ < (s₁.heap.push _).objs.size; rw [Heap.size_push]; exact Nat.lt_succ_self _) (G.to (F.keeps fun _ _ e => Heap.get?_push_of_some _ e) (G.nw.grown fun _ _ e => Heap.get?_push_of_some _ e)) (Nat.ne_of_lt F.ns.lt) nI (fun q hq => Nat.ne_of_lt (Heap.lt_size (G.nw q hq).1)) turn ?_
  · show IsRangeIter _ _ _ _ _
    rw [range_size (n := n) (by omega) (by rw [Int.ediv_one]; split <;> omega)]
    simpa using Heap.get?_push_size _ rfl
  · intro g D C h tk m' G' o1 hn gC hCL hCD offC
    refine ⟨m', hn, fun h'' hs'' => done g D h'' tk (G'.to (G'.fr.change hs'' hCL gC) fun q hq => ?_) o1⟩
    refine ⟨hs''.extBut _ _ ?_ (G'.nw q hq).1, (G'.nw q hq).2⟩
    rcases List.mem_cons.mp hq with rfl | hq
    · exact Ne.symm hCD
    · exact offC q hq
end
end Mine
-- Cc
open PySem PySem.W PyProof.Rows PySem.Calls PySem.Spec PyProof.Rows.LCg
namespace Mine
/-- entering a def with cells, behind which frames may have turned -/
theorem code_turnC {prog : Program} {w : World} {A A₀ : Around} {s : Shared} {K : Frag} {L : Addr} {h₀ base : Heap} {m mg mb : Str → Option Value} {p : Program} {loose : List Str} {mean : ExcName → Option Value}
    {env : Env} {outer : List Env} {R : Result → Shared → Prop} {name qual : Str} {params : Arguments} {body : List Stmt} {scope : Scope} {dV kV doc pm cdv ct oc : Value} {an od : Option Addr} {osl : Array (Option Value)} {f : Addr} {args : Args} {binds : List (Str × Value)}
    (B : Below A₀ base outer h₀) (F : Fr h₀ L s.heap m) (X₀ : K.In h₀) (T : Top p loose mean mg mb h₀) (D : KtsDicts (outer.filterMap (·.frame)) h₀) (hA : A.frames = some (env :: outer)) (hf : env.frame = some L) (hke : env.scope.kind = .function)
    (ho : K.lookup f = some ⟨oc, od, .func (fnOf name qual params body scope dV kV doc pm an cdv ct), osl⟩) (hcd : codeIn K cdv qual = true) (hroom : A.depth < recursionLimit)
    (hbind : BindsTo s (fnOf name qual params body scope dV kV doc pm an cdv ct) args binds) (hkind : (binds.all fun y => scope.names.lookup y.1 == some .local || scope.names.lookup y.1 == some .cell) = true)
    (hnd : ((cellsFrom 0 scope.names []).map (·.1)).Nodup)
    (h : ∀ L' h₁ tk cells, Fr s.heap L' h₁ (bindL (envOfC qual scope L' f cdv).kindOf binds fun _ => none) → News s.heap L' h₁ cells →
      CellsAre (bindC (envOfC qual scope L' f cdv).kindOf binds fun _ => none) (cellsFrom (L' + 1) scope.names []) cells → Below A base (env :: outer) s.heap → K.In s.heap → Top p loose mean mg mb s.heap → KtsDicts ((env :: outer).filterMap (·.frame)) s.heap →
      wpAny (model prog w) (A.deeper (envOfC qual scope L' f cdv)) (execs body (envOfC qual scope L' f cdv))
        (fun fl s' => LeaveT ((env :: outer).filterMap (·.frame)) s.heap R (match fl with | .ret v => v | _ => .none) s')
        (fun e s' => wpAny (model prog w) (A.deeper (envOfC qual scope L' f cdv)) (leaving (envOfC qual scope L' f cdv) e) (fun _ s'' => R (.error e) s'') (fun e' s'' => R (.error e') s'') s')
        { s with heap := h₁, toks := tk })
    (hco : scope.isCoroutine = false) (hgen : scope.isGenerator = false) (hk : scope.kind = .function) : codeAny (model prog w) A (.call (.ref f) args) R s := by
  obtain ⟨FG, BG, st, _⟩ := groundX (R := R) B F News.nil hA hf hke
  refine codeAny_call_function hroom ((X₀.keeps F.keep) _ _ ho) rfl hco hgen rfl (codeRec_of (X₀.keeps F.keep) hcd) (hbind _ _ _ _ ?_)
  refine wpAny_newFunctionEnv_cells hk (kindsX hkind _) fun env' he s' x => ?_
  subst he
  refine ⟨(T.nolimit.keeps F.keep).keeps x.toInCall.keep, codeAny_func ?_⟩
  obtain ⟨h₁, tk, rfl, _⟩ := x.done
  have hk₁ := x.toInCall.keep
  obtain ⟨cells, NC, Y⟩ := Cl.news (h₀ := s.heap) (Nat.le_refl _) fun n c hm => ⟨x.cell n c (lookup_of_mem_nodup (cellsFrom_names scope.names 0 (s.heap.objs.size + 1) [] [] rfl ▸ hnd) hm), x.above n c hm⟩
  refine wpAny_mono (h s.heap.objs.size h₁ tk cells ⟨x.toInCall.ns, fun b o e => hk₁ b o e, Nat.le_refl _⟩ NC Y BG (X₀.keeps F.keep) (T.keeps F.keep) (dicts_push F hf D)) (fun fl s' hl => ?_) fun _ _ y => y
  obtain ⟨g', L', m', T', F', k⟩ := hl
  exact k ⟨g', T', F'.keep⟩

/-- between the turns of a loop whose name is a cell: nothing else changes -/
def CellS (c : Addr) (news : List (Addr × Obj)) (stored : List Str) (m₀ m' : Str → Option Value) (nx : List (Addr × Obj)) : Prop :=
  ∃ o v, nx = (c, o) :: news ∧ o.data = .cell v ∧ ∀ z, stored.contains z = false → m' z = m₀ z
theorem cell_end {h₀ : Heap} {L c : Addr} {stored : List Str} {m₀ m' : Str → Option Value} {news own news' : List (Addr × Obj)} {o : Obj} {v : Option Value} {s₁ : Shared} {h' : Heap} {tk : Nat} (F : Fr h₀ L h' m') (N : News h₀ L h' news') (hc : (c, o) ∈ news') (hd : o.data = .cell v)
    (hn : ∀ p, p ∈ news → p ∈ news') (ho : ∀ p, p ∈ own → p ∈ news') (hr : ∀ z, stored.contains z = false → m' z = m₀ z) : InvEndN h₀ L (CellS c news stored m₀) own (c :: news.map (·.1)) s₁ { s₁ with heap := h', toks := tk } := by
  refine ⟨h', tk, m', news', (c, o) :: news, rfl, F, N, fun p hp => ?_, ho, rfl, o, v, rfl, hd, hr⟩
  rcases List.mem_cons.mp hp with rfl | hp
  · exact hc
  · exact hn p hp
section
variable {prog : Program} {w : World} {A : Around} {E : Value → Shared → Prop} {s : Shared} {env : Env} {h₀ : Heap} {x : Str} {body : List Stmt} {Q : Flow → Shared → Prop}
/-- as CellS, the ledger in its own order -/
def CellF (g : Obj → List (Addr × Obj)) (stored : List Str) (m₀ m' : Str → Option Value) (nx : List (Addr × Obj)) : Prop :=
  ∃ o v, nx = g o ∧ o.data = .cell v ∧ ∀ z, stored.contains z = false → m' z = m₀ z
theorem cellF_end {L : Addr} {stored : List Str} {m₀ m' : Str → Option Value} {g : Obj → List (Addr × Obj)} {own news' : List (Addr × Obj)} {adr : List Addr} {o : Obj} {v : Option Value} {s₁ : Shared} {h' : Heap} {tk : Nat} (F : Fr h₀ L h' m') (N : News h₀ L h' news')
    (hn : ∀ p, p ∈ g o → p ∈ news') (hd : o.data = .cell v) (ho : ∀ p, p ∈ own → p ∈ news') (ha : (g o).map (·.1) = adr) (hr : ∀ z, stored.contains z = false → m' z = m₀ z) : InvEndN h₀ L (CellF g stored m₀) own adr s₁ { s₁ with heap := h', toks := tk } :=
  ⟨h', tk, m', news', g o, rfl, F, N, hn, ho, ha, o, v, rfl, hd, hr⟩
theorem updF_at {d : Addr} {o : Obj} {l : List (Addr × Obj)} {g : Obj → List (Addr × Obj)} (U : UpdF d o l g) : (d, o) ∈ l := by
  induction U with
  | head _ => exact .head _
  | tail _ _ ih => exact .tail _ ih
theorem updF_mem {d : Addr} {o : Obj} {l : List (Addr × Obj)} {g : Obj → List (Addr × Obj)} (U : UpdF d o l g) (o' : Obj) : (d, o') ∈ g o' := by
  induction U with
  | head _ => exact .head _
  | tail _ _ ih => exact .tail _ ih
theorem updF_old {d : Addr} {o : Obj} {l : List (Addr × Obj)} {g : Obj → List (Addr × Obj)} (U : UpdF d o l g) (o' : Obj) : ∀ p, p ∈ g o' → p = (d, o') ∨ (p ∈ l ∧ p.1 ≠ d ∧ ∀ x, p ∈ g x) := by
  induction U with
  | head h => exact fun p hp => (List.mem_cons.mp hp).elim .inl fun hp => .inr ⟨.tail _ hp, h p hp, fun _ => .tail _ hp⟩
  | tail h _ ih =>
    intro p hp
    rcases List.mem_cons.mp hp with rfl | hp
    · exact .inr ⟨.head _, h, fun _ => .head _⟩
    · exact (ih p hp).imp id fun x => ⟨.tail _ x.1, x.2.1, fun y => .tail _ (x.2.2 y)⟩
/-- between two turns of such a loop -/
inductive CellI (h₀ : Heap) (L I : Addr) (n : Nat) (g : Obj → List (Addr × Obj)) (stored : List Str) (m₀ : Str → Option Value) (s : Shared) : Nat → Shared → Prop
  | mk (h' : Heap) (tk : Nat) (m' : Str → Option Value) (o' : Obj) (v' : Option Value) (i : Nat) : IsRangeIter h' I (0 + (i : Nat) * 1) ((n : Int) - (i : Nat)) 1 → Fr h₀ L h' m' → News h₀ L h' (g o') → o'.data = .cell v' →
      (∀ z, stored.contains z = false → m' z = m₀ z) → i ≤ n → CellI h₀ L I n g stored m₀ s (n + 1 - i) { s with heap := h', toks := tk }
theorem cellI_next {h₀ : Heap} {L I : Addr} {n i : Nat} {g : Obj → List (Addr × Obj)} {stored : List Str} {m₀ : Str → Option Value} {s s₃ : Shared} {oI : Obj} {adr : List Addr} {h₂ : Heap} {tk₁ : Nat} (hi : i < n) (hI : oI = { cls := .type "range_iterator", data := .fields #[rawInt (0 + ((i + 1 : Nat) : Int) * 1), rawInt ((n : Int) - ((i + 1 : Nat) : Int)), rawInt 1] })
    (x : InvEndN h₀ L (CellF g stored m₀) [(I, oI)] adr { s with heap := h₂, toks := tk₁ } s₃) : ∃ k, k < n + 1 - i ∧ CellI h₀ L I n g stored m₀ s k s₃ := by
  obtain ⟨h₄, tk₄, m₄, news₄, nx, rfl, F₄, N₄, hn₄, ho₄, _, o₄, v₄, rfl, hd₄, hm₄⟩ := x
  refine ⟨_, by omega, CellI.mk h₄ tk₄ m₄ o₄ v₄ (i + 1) ?_ F₄ (fun p hp => N₄ p (hn₄ p hp)) hd₄ hm₄ hi⟩
  show h₄.get? _ = some _
  rw [(N₄ _ (ho₄ _ (List.mem_singleton.mpr rfl))).1, hI]
theorem still_cellF {r : Addr} {b₀ : Int} {t₀ u₀ v₀ : Tok} {n : Nat} {m₀ : Str → Option Value} {all : List (Addr × Obj)} {g : Obj → List (Addr × Obj)} {c : Addr} {o : Obj} {v1 : Option Value} {px : Pos} (stored : List Str)
    (hh : A.handled = none) (hx : env.kindOf x = some .cell) (hk : env.scope.kind = .function) (hc : env.cells.lookup x = some c)
    (hr : IsRange s.heap r 0 b₀ 1 t₀ u₀ v₀) (hb : b₀ = ((n : Nat) : Int)) (hb2 : n < 1000000) (F : Fr h₀ env.locals s.heap m₀) (N : News h₀ env.locals s.heap all) (U : UpdF c o all g) (ho : o.data = .cell v1)
    (turn : ∀ (k : Int) t (u : Str → Option Value) h tk own o', 0 ≤ k → k < ((n : Nat) : Int) → o'.data = .cell (some (.int k t)) → OwnOff own (all.map (·.1)) → Fr h₀ env.locals h (fun y => if stored.contains y then u y else m₀ y) → News h₀ env.locals h (g o' ++ own) →
      wpAny (model prog w) A (execs body env) (InvPostN h₀ env.locals (CellF g stored m₀) own (all.map (·.1)) { s with heap := h, toks := tk } Q) E { s with heap := h, toks := tk })
    (done : ∀ (u : Str → Option Value) h tk o' v', o'.data = .cell v' → Fr h₀ env.locals h (fun y => if stored.contains y then u y else m₀ y) → News h₀ env.locals h (g o') → Q .next { s with heap := h, toks := tk })
    (hE : PassesOwn (model prog w) A env E) :
    wpAny (model prog w) A (pyIter (.ref r)) (fun it s₂ => codeAny (model prog w) A (.forLoop (.Name x px) it body [] env) (fun r s' => match r with | .ok f => Q f s' | .error e => cameBackBy (model prog w) A env E e s') s₂) E s := by
  subst hb
  have hrs : Builtin.Range.rangeSize 0 ((n : Nat) : Int) 1 = (n : Int) := range_size (n := n) (by omega) (by rw [Int.ediv_one]; split <;> omega)
  refine wpAny_pyIter_range hr (range_small (by omega) (by omega) (by omega) (by omega) (by omega) (by omega)) ?_
  have W := range_walks (prog := prog) (w := w) (I := s.heap.objs.size) hh 0 n
  have nI : h₀.get? s.heap.objs.size = none := next_is_new F
  have IL : s.heap.objs.size ≠ env.locals := Ne.symm (Nat.ne_of_lt F.ns.lt)
  have In : ∀ p ∈ all, p.1 ≠ s.heap.objs.size := fun p hp => Nat.ne_of_lt (Heap.lt_size (N p hp).1)
  have Ic : c ≠ s.heap.objs.size := In _ (updF_at U)
  have Lc : c ≠ env.locals := (N _ (updF_at U)).2.1
  have nc : h₀.get? c = none := (N _ (updF_at U)).2.2
  have off : ∀ o', ∀ p ∈ g o', p.1 ≠ s.heap.objs.size := fun o' p hp => (updF_old U o' p hp).elim (fun e => e ▸ Ic) fun x => In p x.1
  have same : ∀ {m' : Str → Option Value}, (∀ z, stored.contains z = false → m' z = m₀ z) → m' = fun y => if stored.contains y then m' y else m₀ y := fun {m'} h => by
    funext z
    cases e : stored.contains z with
    | true => simp
    | false => simpa using h z e
  have up : ∀ b o', s.heap.get? b = some o' → (s.heap.push { cls := .type "range_iterator", data := .fields #[rawInt 0, rawInt (Builtin.Range.rangeSize 0 ((n : Nat) : Int) 1), rawInt 1] }).get? b = some o' := fun b o' e => Heap.get?_push_of_some _ e
  have N₀ : News h₀ env.locals s.heap (g o) := fun p hp => (updF_old U o p hp).elim (fun e => e ▸ N _ (updF_at U)) fun x => N p x.1
  refine codeAny_forLoop (CellI h₀ env.locals s.heap.objs.size n g stored m₀ s) ?_ (n + 1)
    (CellI.mk _ s.toks m₀ o v1 0 ?_ (F.keeps up) (N₀.grown up) ho (fun _ _ => rfl) (Nat.zero_le _))
  · intro k s' hI
    cases hI with | mk h' tk m' o' v' i hst' F' N' hd' hm' hi =>
    by_cases hlt : i < n
    · refine W.item i _ _ _ hlt hst' fun v h₁ tk₁ hP hst₁ hk₁ => ?_
      obtain ⟨t, rfl⟩ := hP
      rw [Int.zero_add]
      have F₁ := fr_but F' hk₁ (Ne.symm IL) nI
      have N₁ := news_but N' hk₁ (off o')
      refine wpAny_assign_Name (wpAny_storeName_cell hk hx hc ⟨o', (N₁ _ (updF_mem U o')).1, hd'⟩ fun h₂ hv hs => ?_)
      obtain ⟨o₂, ho₂, hd₂⟩ := hv
      have F₂ := F₁.change hs Lc nc
      have heI₂ := (hs.2 _ (Ne.symm Ic)).trans hst₁
      have N₂ : News h₀ env.locals h₂ (g o₂ ++ [(s.heap.objs.size, _)]) := fun p hp => (List.mem_append.mp hp).elim
        (fun hp => (updF_old U o₂ p hp).elim (fun e => e ▸ ⟨ho₂, Lc, nc⟩) fun x => have z := N₁ p (x.2.2 _); ⟨(hs.2 _ x.2.1).trans z.1, z.2⟩)
        fun hp => List.mem_singleton.mp hp ▸ ⟨heI₂, IL, nI⟩
      have hoff : OwnOff [(s.heap.objs.size, ({ cls := .type "range_iterator", data := .fields #[rawInt (0 + ((i + 1 : Nat) : Int) * 1), rawInt ((n : Int) - ((i + 1 : Nat) : Int)), rawInt 1] } : Obj))] (all.map (·.1)) := fun p hp b hb => by
        rw [List.mem_singleton.mp hp]
        obtain ⟨q, hq, rfl⟩ := List.mem_map.mp hb
        exact Ne.symm (In q hq)
      refine wpAny_mono (wpAny_passesOwn hE (turn i t m' h₂ _ _ o₂ (Int.natCast_nonneg _) (Int.ofNat_lt.mpr hlt) hd₂ hoff ((same hm') ▸ F₂) N₂)) (fun f s₃ h₃ => ?_) fun _ _ e => e
      cases f with
      | ret v => exact h₃
      | brk => exact h₃
      | next => exact cellI_next hlt rfl h₃
      | cont => exact cellI_next hlt rfl h₃
    · obtain rfl : i = n := Nat.le_antisymm hi (Nat.not_lt.mp hlt)
      refine W.done _ _ _ hst' fun h₁ tk₁ hk₁ => wpAny_execs_nil ?_
      exact done m' h₁ tk₁ o' v' hd' ((same hm') ▸ fr_but F' hk₁ (Ne.symm IL) nI) (news_but N' hk₁ (off o'))
  · show IsRangeIter _ _ _ _ _
    rw [hrs]
    simpa using Heap.get?_push_size _ rfl
theorem For_cellE {px pos : Pos} {iter : PySem.Expr} (_hx : env.kindOf x = some .cell)
    (h : wpAny (model prog w) A (eval iter env) (fun xv s₁ => wpAny (model prog w) A (pyIter xv) (fun it s₂ => codeAny (model prog w) A (.forLoop (.Name x px) it body [] env) (fun r s' => match r with | .ok f => Q f s' | .error e => cameBackBy (model prog w) A env E e s') s₂) E s₁) E s)
    (hs : ∀ x, foldedSetIterable iter env x = pure x := by intro _; rfl) :
    wpAny (model prog w) A (exec (.For (.Name x px) iter body [] pos) env) Q E s := wpAny_For h hs
end
end Mine
-- Cd
open PySem PySem.W PyProof.Rows PySem.Calls PySem.Spec PyProof.Rows.LCg
namespace Mine
section
variable {prog : Program} {w : World} {A : Around} {E : Value → Shared → Prop} {s : Shared} {env : Env} {h₀ : Heap} {L : Addr} {m : Str → Option Value} {news : List (Addr × Obj)}
/-- a test that only reads -/
def TestEnd (q : Int → Bool) (k : Int) (h : Heap) (s₁ : Shared) (b : Bool) (s₂ : Shared) : Prop := b = q k ∧ ∃ tk, s₂ = { s₁ with heap := h, toks := tk }
theorem TestEnd.intro {q : Int → Bool} {k : Int} {h : Heap} {b : Bool} {tk : Nat} (e : b = q k) : TestEnd q k h s b { s with heap := h, toks := tk } := ⟨e, tk, rfl⟩
inductive TupSrc (h₀ : Heap) (L : Addr) (m : Str → Option Value) (q : Int → Bool) (prog : Program) (w : World) (A : Around) (env : Env) (ct : PySem.Expr) (x : Str) (scope : Scope) (cl : List (Str × Addr)) (Q : Value → Shared → Prop) : Value → Shared → Prop
  | mk (ax : Addr) (o : Obj) (vs : List Value) (ns : List Int) (news : List (Addr × Obj)) (s₁ : Shared) : A.handled = none → Fr h₀ L s₁.heap m → News h₀ L s₁.heap news → (ax, o) ∈ news → o.cls = .type "tuple" → (∃ n, o.data = .seq (List.toArray vs) n) → IntsAre vs ns → ns.length ≤ 1000000 →
    (∀ k t I oI C oC D m₂ ys h tk (E' : Value → Shared → Prop), NsObj oC m₂ → m₂ x = some (.int k t) → Fr h₀ L h m → News h₀ L h ((I, oI) :: (C, oC) :: (D, lst ys) :: news) → Off3 I C D news → ((@Ne Nat I C) ∧ (@Ne Nat I D) ∧ (@Ne Nat C D)) →
      wpAny (model prog w) A (isTrue ct (compEnvC scope cl C env) (eval ct (compEnvC scope cl C env))) (TestEnd q k h s₁) E' { s₁ with heap := h, toks := tk }) →
    (∀ D ys h tk, Fr h₀ L h m → News h₀ L h ((D, lst ys) :: news) → Off1 D news → IntsAre ys (ns.filter q) → Q (.ref D) { s₁ with heap := h, toks := tk }) → TupSrc h₀ L m q prog w A env ct x scope cl Q (.ref ax) s₁
theorem TupSrc.intro {q : Int → Bool} {ct : PySem.Expr} {x : Str} {scope : Scope} {cl : List (Str × Addr)} {Q : Value → Shared → Prop} {ax : Addr} {o : Obj} {vs : List Value} {ns : List Int} (hh : A.handled = none) (F : Fr h₀ L s.heap m) (N : News h₀ L s.heap news) (hm : (ax, o) ∈ news) (hc : o.cls = .type "tuple") (hd : ∃ n, o.data = .seq (List.toArray vs) n) (hi : IntsAre vs ns) (hl : ns.length ≤ 1000000)
    (turn : ∀ k t I oI C oC D m₂ ys h tk (E' : Value → Shared → Prop), NsObj oC m₂ → m₂ x = some (.int k t) → Fr h₀ L h m → News h₀ L h ((I, oI) :: (C, oC) :: (D, lst ys) :: news) → Off3 I C D news → ((@Ne Nat I C) ∧ (@Ne Nat I D) ∧ (@Ne Nat C D)) →
      wpAny (model prog w) A (isTrue ct (compEnvC scope cl C env) (eval ct (compEnvC scope cl C env))) (TestEnd q k h s) E' { s with heap := h, toks := tk })
    (done : ∀ D ys h tk, Fr h₀ L h m → News h₀ L h ((D, lst ys) :: news) → Off1 D news → IntsAre ys (ns.filter q) → Q (.ref D) { s with heap := h, toks := tk }) :
    TupSrc h₀ L m q prog w A env ct x scope cl Q (.ref ax) s := .mk ax o vs ns news s hh F N hm hc hd hi hl turn done
theorem filter_rest {ct : PySem.Expr} {x : Str} {px : Pos} {scope : Scope} {cl : List (Str × Addr)} {S : List (Addr × Obj) → Prop} {P : Nat → Value → Prop} {Fin : List Value → List (Addr × Obj) → Prop} {ns : List Int} (q : Int → Bool) (hS : S news) (hP : ∀ i v, P i v → ∃ k t, ns[i]? = some k ∧ v = .int k t)
    (hkind : scope.kind = .function) (hx : scope.names.lookup x = some .local) (hdb : (x == ("__debug__" : Str)) = false)
    (turn : ∀ k t I oI C oC D m₂ ys h tk (E' : Value → Shared → Prop), NsObj oC m₂ → m₂ x = some (.int k t) → Fr h₀ L h m → News h₀ L h ((I, oI) :: (C, oC) :: (D, lst ys) :: news) → Off3 I C D news → ((@Ne Nat I C) ∧ (@Ne Nat I D) ∧ (@Ne Nat C D)) →
      wpAny (model prog w) A (isTrue ct (compEnvC scope cl C env) (eval ct (compEnvC scope cl C env))) (TestEnd q k h s) E' { s with heap := h, toks := tk })
    (fin : ∀ ys, IntsAre ys (ns.filter q) → Fin ys news) : LCt.CompRestT prog w A h₀ L m env ct (.Name x px) x scope cl s S P Fin ns.length 0 [] news := by
  have key : ∀ (j i : Nat) (ys : List Value), i + j = ns.length → IntsAre ys ((ns.take i).filter q) → LCt.CompRestT prog w A h₀ L m env ct (.Name x px) x scope cl s S P Fin j i ys news := by
    intro j
    induction j with
    | zero =>
      intro i ys hi hy
      obtain rfl : i = ns.length := by omega
      rw [List.take_length] at hy
      exact LCt.CompRestT.zero (fin ys hy)
    | succ j ih =>
      intro i ys hi hy
      refine LCt.CompRestT.succ ?_
      intro v I oI C oC D m₂ h tk E' hv hC hx' F N off ne
      obtain ⟨k, t, hk, rfl⟩ := hP i v hv
      have hs : (ns.take (i + 1)).filter q = (ns.take i).filter q ++ (if q k then [k] else []) := by
        rw [List.take_add_one, hk, List.filter_append]
        cases hq : q k <;> simp [hq]
      refine wpAny_mono (turn k t I oI C oC D m₂ ys h tk E' hC hx' F N off ne) (fun b s₂ hb => ?_) fun _ _ e => e
      obtain ⟨rfl, tk₂, rfl⟩ := hb
      cases hq : q k with
      | true =>
        simp only [if_true]
        refine ldVarK (hC.ns (N (C, oC) (List.mem_cons_of_mem _ List.mem_cons_self)).1) hx' ?_ (by simp [compEnvC, relabel, hkind]) (lookup_relabel_local hx) hdb
        refine ⟨h, tk₂, news, rfl, F, N, off, hS, ih (i + 1) _ (by omega) ?_⟩
        rw [hs, hq, if_pos rfl]
        exact IntsAre.append hy (.cons k t .nil)
      | false =>
        simp only [Bool.false_eq_true, if_false]
        refine ⟨h, tk₂, news, rfl, F, N, off, hS, ih (i + 1) _ (by omega) ?_⟩
        rw [hs, hq, if_neg (by decide), List.append_nil]
        exact hy
  exact key ns.length 0 [] (by omega) (by simpa using IntsAre.nil)
/-- a comprehension that keeps a tuple's ints by a test that only reads -/
theorem ListComp_tup {ct iter : PySem.Expr} {x : Str} {px pe : Pos} {scope : Scope} {cl : List (Str × Addr)} {pos : Pos} {Q : Value → Shared → Prop} (q : Int → Bool) (_F : Fr h₀ L s.heap m)
    (hclos : closureFor scope env = pure cl) (hcell : ∀ y ∈ scope.names, y.2 ≠ .cell) (hkind : scope.kind = .function)
    (hnames : ∀ y ∈ scope.names, y.2 = .local → scope.names.lookup y.1 = some .local) (hx : scope.names.lookup x = some .local) (hdb : (x == ("__debug__" : Str)) = false)
    (h : wpAny (model prog w) A (eval iter env) (TupSrc h₀ L m q prog w A env ct x scope cl Q) E s)
    (hs : ∀ x, foldedSetIterable iter env x = pure x) :
    wpAny (model prog w) A (eval (.ListComp (.Name x pe) [⟨.Name x px, iter, [ct], 0⟩] scope pos) env) Q E s := by
  rw [eval_ListComp]
  refine wpAny_comprehension_free (use := none) rfl hs hclos hkind hnames (wpAny_mono h (fun xv s₁ h₁ => ?_) fun _ _ e => e)
  cases h₁ with | mk ax o vs ns news s₁ hh F N hm hoc hod hi hlen turn done =>
  have tup : ∀ {h : Heap}, h.get? ax = some o → h.IsTuple ax vs.toArray := fun e => hod.elim fun n hd => ⟨o, e, hoc, n, hd⟩
  have ht : s₁.heap.IsTuple ax vs.toArray := tup (N _ hm).1
  have hlt : ax < s₁.heap.objs.size := Heap.lt_size (N _ hm).1
  have hsz : vs.toArray.size = ns.length := by rw [List.size_toArray]; exact hi.length
  refine wpAny_pyIter_tuple ht ?_
  have W := Walks.tuple (prog := prog) (w := w) hh s₁.heap.objs.size ax (Nat.ne_of_lt hlt) vs.toArray
  rw [hsz] at W
  refine LCt.block_T (S := fun nw => (ax, o) ∈ nw) (Fin := fun ys nw => nw = news ∧ IntsAre ys (ns.filter q)) W (by rw [PySem.sizeLine_eq]; omega) (fun i h st => st.1.elim fun o' x => ⟨o', x.1⟩) (fun i h h' o' nw st e e' k N' hS => ⟨st.1.elim fun o2 x => ⟨o', e', Option.some.inj (e.symm.trans x.1) ▸ x.2⟩, tup (N' _ hS).1⟩) hcell hkind hx
    ⟨⟨_, Heap.get?_push_size _ rfl, rfl, rfl⟩, ht.push _⟩ (fun b hb => ?_) (F.keeps fun _ _ e => Heap.get?_push_of_some _ e) (N.grown fun _ _ e => Heap.get?_push_of_some _ e) (Nat.ne_of_lt F.ns.lt) (next_is_new F) (fun p hp => Nat.ne_of_lt (Heap.lt_size (N p hp).1)) hm
    (filter_rest q hm (fun i v hv => ?_) hkind hx hdb turn fun ys hy => ⟨rfl, hy⟩) ?_
  · show b < (s₁.heap.push _).objs.size
    rw [Heap.size_push]
    rcases List.mem_cons.mp hb with rfl | hb
    · exact Nat.lt_succ_self _
    · rw [List.mem_singleton.mp hb]; exact Nat.lt_succ_of_lt hlt
  · obtain ⟨k, t, e, hk⟩ := IntsAre.at hi i v (by simpa using hv)
    exact ⟨k, t, hk, e⟩
  · intro D C h tk m' ys news' F' N' o1 hn hC₀ hD₀ hCL hDL hCD offC hfin
    obtain rfl := hfin.1
    refine ⟨m', hn, fun h'' hs'' => done D ys h'' tk (F'.change hs'' hCL hC₀) (fun p hp => ?_) o1 hfin.2⟩
    refine ⟨hs''.extBut _ _ ?_ (N' p hp).1, (N' p hp).2⟩
    rcases List.mem_cons.mp hp with rfl | hp
    · exact Ne.symm hCD
    · exact offC p hp
end
end Mine
-- C1
open PySem PySem.W PyProof.Rows PySem.Calls PySem.Spec
namespace Mine
section
variable {w : World} {d : Nat} {f : Addr} {args : List Value} {pre : Heap → Prop} {mean : ExcName → Option Value} {mg mb : Str → Option Value} {dp un : Nat} {gd : Option (List Code)} {cn : Str} {cs : Scope} {a : Addr} {ccd : Value} {cl : List (Str × Addr)} {outer : List Env} {A₀ : Around} {base g₀ h₀ : Heap} {L : Addr} {m : Str → Option Value} {s : Shared}
    {Q E : Value → Shared → Prop} {news : List (Addr × Obj)}
theorem use_turn {v : Value} (C : PTurn w d f args pre (fun _ _ r => r = v)) (T₀ : KtsTurn (outer.filterMap (·.frame)) g₀ h₀) (B : Below A₀ base outer h₀) (F : Fr h₀ L s.heap m) (X : (Mine.frag w.params).In h₀) (N : News h₀ L s.heap news) (T : Top Mine.view lks mean mg mb h₀) (D : KtsDicts (outer.filterMap (·.frame)) h₀)
    (XB : (Mine.frag w.params).In base) (TB : Top Mine.view lks mean mg mb base) (hk : cs.kind = .function) (hdp : dp + d < recursionLimit) (hun : un + 10 * d < cLine) (hp : pre s.heap)
    (ret : ∀ g h' tk', KtsTurn (outer.filterMap (·.frame)) g₀ g → Fr g L h' m → News g L h' news → Below A₀ base outer g → (Mine.frag w.params).In g → Top Mine.view lks mean mg mb g → KtsDicts (outer.filterMap (·.frame)) g → Q v { s with heap := h', toks := tk' }) :
    wpAny (model prg w) (ktrTop dp un gd cn cs L a ccd cl outer) (call (.ref f) args) Q E s :=
  C _ _ _ _ _ _ _ _ _ _ _ _ _ _ _ _ _ _ _ _ B F X T D XB TB hk hdp hun hp fun r h' tk' t p => by
    subst p
    obtain ⟨g, T1, F1, N1, B1, X1, P1, D1⟩ := turned_ground (env := envX cn cs L a ccd cl) B F N rfl D XB TB t
    exact ret g h' tk' (T₀.trans T1) F1 N1 B1 X1 P1 D1
theorem turn_list {fs : List Addr} {g g' : Heap} {l : Addr} {vs : Array Value} (T : KtsTurn fs g g') (H : g.IsList l vs) : g'.IsList l vs := by
  obtain ⟨o, ho, hc, n, hd⟩ := H
  obtain ⟨sl, hs⟩ := T.up ho
  exact ⟨_, hs, hc, n, hd⟩
end
theorem utf_le6 (n : Int) : (utf n).length ≤ 6 := by
  by_cases h : n < 128
  · rw [show utf n = [n] from if_pos h]; simp
  · have := kOf_range n
    rw [utf_len (by omega)]; omega
structure UtfOk (n : Int) : Prop where
  head : ¬ (128 ≤ (utf n).getD (Int.toNat 0) 0 ∧ (utf n).getD (Int.toNat 0) 0 < 192)
  more : ∀ x ∈ List.drop 1 (utf n), 128 ≤ x ∧ x < 192
theorem utf_ok {n : Int} (h0 : 0 ≤ n) (h1 : n < 2 ^ 31) : UtfOk n := by
  obtain ⟨x, r, e, hx, hr⟩ := utf_head h0 h1
  refine ⟨?_, ?_⟩
  · rw [e]; exact hx
  · rw [e]; exact hr
theorem lt_utf {prog : Program} {w : World} {A : Around} {E : Value → Shared → Prop} {s : Shared} {l b : Addr} {x y : Int} {xs ys : List Value} {Q : Value → Shared → Prop} (hx : IntsAre xs (utf x)) (hy : IntsAre ys (utf y)) (bx : 0 ≤ x ∧ x < 2 ^ 31) (by_ : 0 ≤ y ∧ y < 2 ^ 31)
    (hl : s.heap.IsList l xs.toArray) (hb : s.heap.IsList b ys.toArray) (hu : A.units < cLine) (h : Q (.bool (decide (x < y))) s) : wpAny (model prog w) A (compareOp .Lt (.ref l) (.ref b)) Q E s := by
  refine lt_list_ints hl hx hb hy hu ?_
  rw [utf_order bx.1 bx.2 by_.1 by_.2]
  exact h
theorem filter_cont {l : List Int} (h : ∀ x ∈ l, 128 ≤ x ∧ x < 192) : List.filter (fun a => if 128 ≤ a then !decide (a < 192) else !false) l = [] := by
  rw [List.filter_eq_nil_iff]
  intro a ha
  have := h a ha
  simp [this.1, this.2]
theorem cell_val {o : Obj} {x y : Option Value} (d : o.data = .cell x) (e : x = y) : o.data = .cell y := e ▸ d
theorem flat_atI (nums : List Int) (i : Nat) (hn : ∀ n ∈ nums, 0 ≤ n ∧ n < 2 ^ 31) (h : i < (flat utf nums).length) :
    (128 ≤ (flat utf nums).getD ((i : Nat) : Int).toNat 0 ∧ (flat utf nums).getD ((i : Nat) : Int).toNat 0 < 192) ∨ (¬ (128 ≤ (flat utf nums).getD ((i : Nat) : Int).toNat 0 ∧ (flat utf nums).getD ((i : Nat) : Int).toNat 0 < 192) ∧ ∃ n post, (0 ≤ n ∧ n < 2 ^ 31) ∧ (flat utf nums).drop ((i : Nat) : Int).toNat = utf n ++ post) := by
  rw [Int.toNat_natCast]
  rcases flat_at nums i hn h with q | ⟨q, n, post, hm, hd⟩
  · exact .inl q
  · exact .inr ⟨q, n, post, hn n hm, hd⟩
end Mine
namespace Mine
set_option maxHeartbeats 8000000 in
theorem codesRight_c (w : World) (l : Addr) (n0 n1 n2 n3 : Int) (t0 t1 t2 t3 : Tok) (h0 : 0 ≤ n0 ∧ n0 < 2 ^ 31) (h1 : 0 ≤ n1 ∧ n1 < 2 ^ 31) (h2 : 0 ≤ n2 ∧ n2 < 2 ^ 31) (h3 : 0 ≤ n3 ∧ n3 < 2 ^ 31) :
    PTurn w 100 206 [.ref l] (fun h => h.IsList l #[.int n0 t0, .int n1 t1, .int n2 t2, .int n3 t3]) (fun _ _ r => r = .bool true) := by
  have hB9 : ∀ n ∈ [n0, n1, n2, n3], 0 ≤ n ∧ n < 2 ^ 31 := four_all h0 h1 h2 h3
  have hen9 : ∀ n ∈ [n0, n1, n2, n3], 0 < (utf n).length ∧ (utf n).length ≤ 100 := fun n hn => ⟨utf_pos n, by have := utf_le6 n; omega⟩
  have hok9 : ∀ n ∈ [n0, n1, n2, n3], UtfOk n := fun n hn => utf_ok (hB9 n hn).1 (hB9 n hn).2
  have hI4 : IntsAre [.int n0 t0, .int n1 t1, .int n2 t2, .int n3 t3] [n0, n1, n2, n3] := .cons _ _ (.cons _ _ (.cons _ _ (.cons _ _ .nil)))
  unfold PTurn prg
  k_fill
  intro mean mg mb dp un gd cn cs aC ccd cl outer A₀ base h₀ L m s Q E hB hF hX hT hD hXB hTB hK hDp hUn hpre hret
  refine wpAny_call ?_
  k_with_none
  k_with "op line" => (intro opX opE; (try simp only [bitAnd_m1, bitAnd_m4, bitAnd_m6, bitAnd_m7, bitAnd_m8, Int.reduceToNat, Int.reducePow] at opE))
  k_with "binaryOp BitAnd int int" => (k_here; (fail_if_success (with_reducible show wpAny _ _ (binaryOp _ (Value.int (OfNat.ofNat _) _) (Value.int (OfNat.ofNat _) _)) _ _ _)); (with_reducible refine o_and ?_); walk_at "op line")
  k_with "inplaceOp BitAnd int int" => (k_here; (fail_if_success (with_reducible show wpAny _ _ (inplaceOp _ (Value.int (OfNat.ofNat _) _) (Value.int (OfNat.ofNat _) _)) _ _ _)); (with_reducible refine o_iand ?_); walk_at "op line")
  k_with "binaryOp BitOr int int" => (k_here; (fail_if_success (with_reducible show wpAny _ _ (binaryOp _ (Value.int (OfNat.ofNat _) _) (Value.int (OfNat.ofNat _) _)) _ _ _)); (with_reducible refine o_or ?_); walk_at "op line")
  k_with "inplaceOp BitOr int int" => (k_here; (fail_if_success (with_reducible show wpAny _ _ (inplaceOp _ (Value.int (OfNat.ofNat _) _) (Value.int (OfNat.ofNat _) _)) _ _ _)); (with_reducible refine o_ior ?_); walk_at "op line")
  k_with "binaryOp RShift int int" => (k_here; (fail_if_success (with_reducible show wpAny _ _ (binaryOp _ (Value.int (OfNat.ofNat _) _) (Value.int (OfNat.ofNat _) _)) _ _ _)); (with_reducible refine o_rsh ?zq9kb1 ?_); (case zq9kb1 => l_bnd); walk_at "op line")
  k_with "inplaceOp RShift int int" => (k_here; (fail_if_success (with_reducible show wpAny _ _ (inplaceOp _ (Value.int (OfNat.ofNat _) _) (Value.int (OfNat.ofNat _) _)) _ _ _)); (with_reducible refine o_irsh ?zq9kb1 ?_); (case zq9kb1 => l_bnd); walk_at "op line")
  k_with "binaryOp LShift int int" => (k_here; (fail_if_success (with_reducible show wpAny _ _ (binaryOp _ (Value.int (OfNat.ofNat _) _) (Value.int (OfNat.ofNat _) _)) _ _ _)); (with_reducible refine o_lsh ?zq9kb1 ?zq9kb2 ?zq9kb3 ?_); (case zq9kb1 => l_bnd); (case zq9kb2 => l_bnd); (case zq9kb3 => l_bnd); walk_at "op line")
  k_with "pure enter" => (refine' code_pure ?zq9k1 ?zq9k2 ?zq9k3 ?zq9k5 ?zq9kA ?zq9kF ?zq9kK ?zq9k6 ?zq9k7 ?zq9k8 ?zq9k9 ?zq9kB ?_ ?zq9c2 ?zq9c3 ?zq9c4 ?zq9c5; (case zq9kA => exact rfl); (case zq9kF => exact rfl); (case zq9kK => assumption); (case zq9k1 => k_asm); (case zq9k2 => k_asm); (case zq9k3 => k_asm); (case zq9k5 => k_asm); (case zq9k6 => k_is); (case zq9k7 => k_is); (case zq9k8 => ktr_room); (case zq9k9 => exact BindsTo.of_eq rfl); (case zq9c5 => decide); (case zq9kB => exact locs rfl); (case zq9c2 => exact rfl); (case zq9c3 => exact rfl); (case zq9c4 => exact rfl); k_whole; intro L' h' F' N' B' X' T'; (try dsimp only); (try k_lift B'); (try k_fold))
  k_with "passes own line" => (with_reducible exact PySem.PassesOwn.leaving)
  k_with "kst facts1 line" => (first | with_reducible assumption | ((repeat (with_reducible refine IntsAre.cons _ _ ?_)); with_reducible exact IntsAre.nil) | exact IntsAre.append (by with_reducible assumption) (by with_reducible assumption) | exact IntsAre.append (by kst_facts1) (IntsAre.cons _ _ IntsAre.nil) | exact IntsAre.append (by kst_facts1) (IntsAre.cons _ _ (IntsAre.cons _ _ (IntsAre.cons _ _ IntsAre.nil))))
  k_with "sz" => ((try law_lens); (try simp only [List.size_toArray, Array.size_append, Array.size_push, Array.length_toList, List.length_append, List.length_cons, List.length_nil, List.length_reverse, List.length_map, PySem.sizeLine_eq] at *); omega)
  k_with "call builtin:list.reverse" => (k_here; (with_reducible show wpAny _ _ (call (Value.builtin _) [Value.ref _]) _ _ _); k_dflt (refine' kl_reverse ?zq9F ?zq9N ?zq9e ?zq9U ?zq9z ?_; (case zq9F => k_asm); (case zq9N => k_asm); (case zq9e => exact rfl); (case zq9U => k_upd); (case zq9z => walk_at "sz")); intro h' F' N'; (try k_sweep))
  k_with "all and" => ((repeat' (with_reducible apply And.intro)) <;> first | trivial | assumption | omega)
  k_with "exec While Compare cons nil" => (k_dflt (k_extra "while"))
  k_with "exec While BoolOp cons nil" => (k_dflt (k_extra "while"))
  k_with "exec While" => (k_dflt (k_extra "while"))
  k_with "use side" => ((case k1 => k_asm); (case k2 => k_asm); (case k3 => k_asm); (case k4 => k_asm); (case k5 => k_asm); (case kK => first | exact rfl | assumption); (case kd => ktr_room); (case ku => ktr_units))
  k_with "use new" => ((try simp only [AllNe, and_true] at l1); (try k_sweep); (try dsimp only); (try k_fold))
  k_with "is list" => first | exact trivial | assumption | exact News.isList (by k_asm) (by k_mem) | exact stays_list (Fr.keep (by k_asm)) (by assumption)
  k_with "call ref" => (k_dflt (k_extra "call"))
  k_with "exec Raise some none" => (k_dflt (exfalso; k_extra "raise"))
  k_with "for enter" => (ktd_said "for"; k_here; (rename Fr _ _ _ _ => lF'); (with_unfolding_all refine' For_invVF lF' ?zq9k1 ?zq9k2 ?_; (case zq9k1 => exact rfl); (case zq9k2 => exact rfl); k_whole))
  k_with "exec For Name Subscript cons nil" => (k_dflt (walk_at "for enter"))
  k_with "exec For Name Name cons nil" => (k_dflt (walk_at "for enter"))
  k_with "exec For Name Call cons nil" => (k_dflt (walk_at "for enter"))
  k_with "pyIter ref" => (k_dflt (k_extra "for"))
  k_with "exec Raise some none" => (k_dflt (k_extra "raise die"))
  k_with "turn enter" => (refine' code_turn ?zq9k1 ?zq9k2 ?zq9k3 ?zq9k5 ?zq9kD ?zq9kA ?zq9kF ?zq9kK ?zq9k6 ?zq9k7 ?zq9k8 ?zq9k9 ?zq9kB ?_ ?zq9c2 ?zq9c3 ?zq9c4 ?zq9c5; (case zq9kA => exact rfl); (case zq9kF => exact rfl); (case zq9kK => assumption); (case zq9k1 => k_asm); (case zq9k2 => k_asm); (case zq9k3 => k_asm); (case zq9k5 => k_asm); (case zq9kD => k_asm); (case zq9k6 => k_is); (case zq9k7 => k_is); (case zq9k8 => ktr_room); (case zq9k9 => exact BindsTo.of_eq rfl); (case zq9c5 => decide); (case zq9kB => exact locs rfl); (case zq9c2 => exact rfl); (case zq9c3 => exact rfl); (case zq9c4 => exact rfl); k_whole; intro L' h' F' N' B' X' T' D'; (try dsimp only); (try k_lift B'); (try k_fold))
  k_with "LeaveT" => (k_dflt (refine' leaveT_ ?zq9T9 ?zq9F9 ?_; (case zq9F9 => k_asm); (case zq9T9 => first | exact KtsTurn.refl | assumption)); intro tT; (try dsimp only))
  k_with "new pair" => (intro l' t' u' h' tk' F' N' l1; (try simp only [AllNe, and_true] at l1); (try k_sweep); (try dsimp only); (try k_fold))
  k_with "new ints" => (intro l' vs' n' h' tk' F' N' l1 hI'; (try simp only [AllNe, and_true] at l1); (try k_sweep); (try dsimp only); (try k_fold))
  k_with "grow turn" => (intro gVs gNs gK gPre gT gU gH gTk gI gIt gLt gCls l1 gIs gP gF gN; (try k_lt l1); have kM := kstMark; (try k_fold))
  k_with "grow done" => (intro gVs gNs gK gU gH gTk gI gP gF gN; have kM := kstMark; (try k_fold))
  k_with "eval Call" => (ktd_said "call"; k_here; k_dflt (refine Call_ ?_))
  k_with "new int" => (intro u' h' tk' F' N'; (try k_sweep); (try dsimp only); (try k_fold))
  k_with "eval BinOp" => (k_dflt (k_extra "fact"))
  k_with "new bool" => (intro h' tk' F' N'; (try k_sweep); (try dsimp only); (try k_fold))
  k_with "call builtin:list.extend" => (k_here; (with_reducible show wpAny _ _ (call (Value.builtin _) [Value.ref _, Value.ref _]) _ _ _); k_dflt (refine' my_extend ?zq9F ?zq9N ?zq9b ?zq9U ?zq9ne ?zq9z ?_; (case zq9F => k_asm); (case zq9N => k_asm); (case zq9b => k_mem); (case zq9U => k_upd); (case zq9ne => walk_at "sz"); (case zq9z => walk_at "sz")); intro h' F' N'; (try k_sweep))
  k_with "op line" => (intro opX opE; (try simp only [bitAnd_m1, bitAnd_m4, bitAnd_m6, bitAnd_m7, bitAnd_m8, Int.reduceToNat, Int.reducePow] at opE); (try k_dflt (k_extra "op")))
  k_with "call builtin:min" => ((with_reducible show wpAny _ _ (call (Value.builtin _) [Value.int _ _, Value.int _ _]) _ _ _); ktd_said "min"; (with_reducible rename News _ _ _ _ => N'); (with_unfolding_all apply min_two_N); (case hh => with_unfolding_all rfl); (case N => exact N'); (case F => assumption); clear N'; intro _ _ _ _; k_dflt (k_extra "min"))
  k_with "kmk size line" => ((refine kmk_sz (by l_ints) ?_; rw [PySem.sizeLine_eq]; omega))
  k_with "InvEndN" => (k_dflt kst_close)
  k_with "ite" => (k_here; k_closed; k_dflt (first | refine ite_pos (by decide) ?_ | refine ite_neg (by decide) ?_))
  k_with "sz" => ((simp only [List.size_toArray, Array.size_append, Array.size_push, Array.length_toList, List.length_append, List.length_cons, List.length_nil, List.length_reverse, List.length_map, PySem.sizeLine_eq]); first | omega | (law_lens; omega))
  k_with "kmk nums line" => (first | ((with_reducible refine' kmk_run ?zq9ka ?zq9kb ?zq9kc); (case zq9ka => l_ints); (case zq9kb => kmk_sign); (case zq9kc => kmk_sign)) | ((with_reducible refine' kmk_from ?zq9ka ?zq9kb); (case zq9ka => l_ints); (case zq9kb => kmk_sign)) | ((with_reducible refine' kmk_upto ?zq9ka ?zq9kb); (case zq9ka => l_ints); (case zq9kb => kmk_sign)) | ((with_reducible refine' kmk_upto_neg ?zq9ka ?zq9kb); (case zq9ka => l_ints); (case zq9kb => kmk_sign)))
  k_with "k ne line" => ((refine neN ?_; (try dsimp only); with_reducible first | assumption | exact Ne.symm (by assumption) | exact Nat.ne_of_lt (by assumption) | exact Nat.ne_of_gt (by assumption)))
  k_with "x close line" => ((rename DieRet _ _ => hr9); (rename Mem _ _ _ _ => hD9); refine' die_use hr9 hD9 ⟨_, _, ?zq9hm⟩; (case zq9hm => (repeat (first | exact List.Mem.head _ | refine List.Mem.tail _ ?_))))
  k_with "execs cons" => ((with_reducible refine Mine.execs_seq ?_); intro qk)
  k_with "binaryOp Pow int int" => first | (with_reducible refine o_pow (b := 21) (by decide) (by decide) (by decide) 2097152 (by decide) ?_) | (with_reducible refine o_pow (b := 26) (by decide) (by decide) (by decide) 67108864 (by decide) ?_) | (with_reducible refine o_pow (b := 31) (by decide) (by decide) (by decide) 2147483648 (by decide) ?_)
  k_with "newList" => (k_here; (with_reducible rename PyProof.Rows.CarriedAll _ (List.map PyData.int (List.filter _ _)) => cC9); (with_reducible rename Heap.IsList _ _ _ => iL9); k_dflt (refine' newList_K3 ?zq9k1 ?zq9k2 iL9 ?_; (case zq9k1 => k_asm); (case zq9k2 => k_asm); k_whole); clear iL9; intro l' h' F' N' l1 iL8; (try k_lt l1); (try k_sweep))
  k_with "compareOp NotEq ref ref" => (k_dflt (k_extra "ne"))
  k_with "CompRest" => (with_unfolding_all (refine LCg.CompRest.succ ?_; intro v' I' oI' C' oC' D' m' h' tk' E' hv' hC' hx' F' N' off' ne'; (first | lcg_open hv' | (obtain ⟨t9', hv9'⟩ := hv'; subst hv9')); (try simp only [LCg.Off3, and_true] at off'); (have := ne'.1; have := ne'.2.1; have := ne'.2.2); (repeat (have := off'.1.1; have := off'.1.2.1; have := off'.1.2.2; replace off' := off'.2)); (try (have := off'.1; have := off'.2.1; have := off'.2.2))))
  k_with "new ints" => (intro l' vs' n' h' tk' F' N' l1 hI'; (try simp only [AllNe, and_true] at l1); (repeat (have := l1.1; replace l1 := l1.2)); (try k_sweep); (try dsimp only); (try k_fold))
  k_with "rows turn" => (intro gVs gNs gK gPre gQ gWs gNq gN gU gH gTk gOwn gLt gNth gMem gI gLen gNe gOff gIs gAcc gGl gF gNw; (try simp only [List.cons_append, List.nil_append] at gNw); have kM := kstMark; (try k_fold))
  k_with "rows done" => (intro gVs gNs gK gU gH gTk gIs gAcc gF gNw; (have gE := gAcc.done); subst gE; clear gAcc; have kM := kstMark; (try k_fold))
  k_with "still turn" => (intro sK sPre sT sU sH sTk sOwn sLo sHi sOff sF sN; (try simp only [List.cons_append, List.nil_append] at sN); have kM := kstMark; (try k_fold))
  k_with "still done" => (intro sU sH sTk sF sN; have kM := kstMark; (try k_fold))
  k_with "subscriptTail Name Name ref int" => (k_dflt (k_extra "item"))
  k_with "item done" => (intro iR iWs iN iNews iI; (try k_fold))
  k_with "compareOp Lt ref ref" => (k_dflt (k_extra "lt"))
  k_with "eval ListComp" => (k_dflt (k_extra "comp"))
  k_with "memR" => with_reducible first | exact List.mem_cons_self | (refine List.mem_cons_of_mem _ ?_; walk_at "memR")
  k_with "rows are" => (refine RowsAre.cons (by walk_at "memR") (by with_reducible assumption) ?_; refine RowsAre.cons (by walk_at "memR") (by with_reducible assumption) ?_; refine RowsAre.cons (by walk_at "memR") (by with_reducible assumption) ?_; refine RowsAre.cons (by walk_at "memR") (by with_reducible assumption) ?_; exact RowsAre.nil)
  k_with "sub" => ((repeat ((with_reducible refine List.forall_mem_cons.mpr (And.intro ?_ ?_)); (next => walk_at "memR"))); first | with_reducible exact List.forall_mem_nil _ | walk_at "sub rest")
  k_with "sub" => ((repeat (with_reducible (fail_if_success exact Mine.sub_same); refine Mine.sub_more ?_)); with_reducible exact Mine.sub_same)
  k_with "sub rest" => (intro p hp; (repeat (with_reducible refine List.mem_cons_of_mem _ ?_)); first | with_reducible exact hp | with_reducible exact List.mem_append_left _ hp)
  k_with "own" => (intro p hp; (repeat (with_reducible refine List.mem_cons_of_mem _ ?_)); first | with_reducible exact hp | with_reducible exact List.mem_append_right _ hp)
  k_with "same" => (intro z h2 h3; first | ((simp only [List.contains_cons, List.contains_nil, Bool.or_false, Bool.or_eq_false_iff, beq_eq_false_iff_ne, ne_eq] at h3); (simp only [h2, h3, if_false, List.contains_cons, List.contains_nil, Bool.or_false, beq_iff_eq, Bool.false_eq_true]; done)) | rfl)
  k_with "InvEndN" => ((with_reducible show InvEndN _ _ (KstS (fun _ : Unit => _) _ _ _ _ _ _ _) _ _ _ _); k_dflt (refine still_end (by k_asm) (by k_asm) (by walk_at "sub") (by walk_at "own") (by walk_at "same")))
  k_with "slice init" => (k_here; k_dflt (refine' slice_init ?zq9F ?zq9N ?zq9l ?zq9i ?zq9y ?zq9z ?_ ?zq9s ?zq9t; (case zq9F => k_asm); (case zq9N => k_asm); (case zq9l => kmk_list); (case zq9i => l_ints); (case zq9y => decide); (case zq9z => omega); (case zq9s => with_unfolding_all rfl); (case zq9t => kmk_pure)); intro D' ws' h' F' N' l1 hI'; (try simp only [Int.reduceNeg, Int.neg_neg, Int.reduceToNat] at hI'); (try k_lt l1); (try k_sweep))
  k_with "subscriptTail Subscript Name Name Slice ref ref" => (walk_at "last subscriptTail"; walk_at "slice init")
  k_with "subscriptTail Subscript Name Name UnaryOp ref int" => (walk_at "last subscriptTail"; k_here; (with_unfolding_all refine' item_list_ints_neg ?zq9k1 ?zq9k2 ?zq9k3 ?zq9k4 ?zq9k5 ?_; (case zq9k1 => is_list); (case zq9k2 => l_ints); (case zq9k3 => omega); (case zq9k4 => omega); (case zq9k5 => omega); k_whole); intro _)
  k_with "call type:range" => (k_here; (simp only [Nat.reduceAdd, Int.cast_ofNat_Int]); walk_at "call type:range")
  k_with "turn enter C" => (refine' code_turnC ?zq9k1 ?zq9k2 ?zq9k3 ?zq9k5 ?zq9kDd ?zq9kA ?zq9kF ?zq9kK ?zq9k6 ?zq9k7 ?zq9k8 ?zq9k9 ?zq9kB ?zq9kD ?_ ?zq9c2 ?zq9c3 ?zq9c4; (case zq9kA => exact rfl); (case zq9kF => exact rfl); (case zq9kK => assumption); (case zq9k1 => k_asm); (case zq9k2 => k_asm); (case zq9k3 => k_asm); (case zq9k5 => k_asm); (case zq9kDd => k_asm); (case zq9k6 => k_is); (case zq9k7 => k_is); (case zq9k8 => ktr_room); (case zq9k9 => exact BindsTo.of_eq rfl); (case zq9kB => exact rfl); (case zq9kD => decide +kernel); (case zq9c2 => exact rfl); (case zq9c3 => exact rfl); (case zq9c4 => exact rfl); k_whole; intro L' h' tk' cells' F' N' Y' B' X' T' D'; k_cells Y'; (try simp only [List.cons_append, List.nil_append] at N'); (try dsimp only); (try k_lift B'); (try k_fold))
  k_with "exec For Name Call cons nil" => (ktd_said "for"; k_here; (with_unfolding_all refine' For_cellE ?zq9k1 ?_; (case zq9k1 => exact rfl); k_whole))
  k_with "cell turn" => (intro sK sT sU sH sTk sOwn sO sLo sHi sD sOff sF sN; (try dsimp only at sN); (try simp only [List.cons_append, List.nil_append] at sN); have kM := kstMark; (try k_fold))
  k_with "cell done" => (intro sU sH sTk sO sV sD sF sN; (try dsimp only at sN); have kM := kstMark; (try k_fold))
  k_with "same c" => (intro z h3; first | ((simp only [List.contains_cons, List.contains_nil, Bool.or_false, Bool.or_eq_false_iff, beq_eq_false_iff_ne, ne_eq] at h3); (simp only [h3, if_false, List.contains_cons, List.contains_nil, Bool.or_false, beq_iff_eq, Bool.false_eq_true]; done)) | rfl)
  k_with "InvEndN" => ((with_reducible show InvEndN _ _ (CellF _ _ _) _ _ _ _); k_dflt (refine cellF_end (by k_asm) (by k_asm) (by (try dsimp only); walk_at "sub") (by assumption) (by walk_at "own") (by rfl) (by walk_at "same c")))
  k_with "exec Assign cons ListComp" => (k_dflt (k_extra "comp assign"))
  k_with "TupSrc" => (k_dflt (k_extra "tup src"))
  k_with "TestEnd" => (k_dflt (exact TestEnd.intro rfl))
  k_with "NoneSrc" => (k_dflt (k_extra "none src"))
  k_with "NoneEnd" => (k_dflt (k_extra "none end"))
  k_with "new turn" => (intro g' h' tk' T' F' N' B' X' P' D'; (try k_sweep); (try dsimp only); (try k_fold))
  k_with "new bounds" => (intro l' h' tk' _ _ _ _ _ _ _ _ F' N' l1; (try simp only [AllNe, and_true] at l1); (try k_sweep); (try dsimp only); (try k_fold))
  k_with "none turn" => (intro g' i' t' I' oI' C' oC' D' m' h' tk' E' hi' G' hC' hx' off' ne'; obtain ⟨T', F', N', B', X', P', Dd'⟩ := G')
  k_with "none done" => (intro g' D' h' tk' G' o1'; obtain ⟨T', F', N', B', X', P', Dd'⟩ := G'; (try simp only [LCg.Off1, and_true] at o1'); (rename Heap.IsList _ _ _ => iL9); (have iL8 := turn_list T' iL9); clear iL9; (try k_fold))
  k_dflt walk_at "turn enter C"
  (rename _ = Data.cell _ => d9; have c9 := cell_val (y := some (.ref l)) d9 (by kernel_rfl); clear d9)
  (rename _ = Data.cell (bindC _ _ _ _) => d8; have c8 := cell_val (y := none) d8 (by kernel_rfl); clear d8)
  (rename _ = Data.cell (bindC _ _ _ _) => d7; have c7 := cell_val (y := none) d7 (by kernel_rfl); clear d7)
  (k_with "comp assign" => (k_here; lcg_look; ((refine LCg.Assign_ListComp_U (F₀ := by k_asm) (by rfl) (by with_unfolding_all rfl) (by with_unfolding_all rfl) (by decide) (by rfl) (by decide) (by rfl) (by rfl) (by rfl) ?_); walk1; k_dflt (refine LCg.CompSrc.base (by rfl) (by k_asm) (by k_asm) (by assumption) (by exact Nat.le_of_ble_eq_true rfl) ?_; intro gC9; lcg_lit))))
  (k_with "comp" => first
    | (k_here; lcg_look; ((refine LCg.ListComp_U (F₀ := by k_asm) (by rfl) (by decide) (by rfl) (by decide) (by rfl) ?_); lcg_toSrc))
    | (k_here; lct_look; (with_reducible show wpAny _ _ (eval (PySem.Expr.ListComp _ [⟨_, PySem.Expr.Call _ [_] _ _, _, _⟩] _ _) _) _ _ _); ((refine' ListComp_none ?kF ?kB ?kX ?kT ?c1 ?c2 ?c3 ?c4 ?c5 ?_ ?c6); (case kF => k_asm); (case kB => k_asm); (case kX => k_asm); (case kT => k_asm); (case c1 => with_unfolding_all rfl); (case c2 => decide); (case c3 => exact rfl); (case c4 => decide); (case c5 => exact rfl); (case c6 => (intro _; rfl))))
    | (k_here; lct_look; (with_reducible show wpAny _ _ (eval (PySem.Expr.ListComp (PySem.Expr.Name _ _) [⟨_, PySem.Expr.Call _ [] _ _, _, _⟩] _ _) _) _ _ _); ((refine' ListComp_tup (fun a => decide (a ≤ [n0, n1, n2, n3].getD sK.toNat 0)) ?vkF ?vc1 ?vc2 ?vc3 ?vc4 ?vc5 ?vc7 ?_ ?vc6); (case vkF => k_asm); (case vc1 => with_unfolding_all rfl); (case vc2 => decide); (case vc3 => exact rfl); (case vc4 => decide); (case vc5 => exact rfl); (case vc7 => decide); (case vc6 => (intro _; rfl)))))
  (k_with "tup src" => ((refine' TupSrc.intro (ns := [0, 128, 2048, 65536, 2097152, 67108864, 2147483648]) rfl ?wf ?wn ?wm ?wc ?wd ?wi ?wl ?wT ?wD); (case wf => k_asm); (case wn => k_asm); (case wm => k_mem); (case wc => rfl); (case wd => exact ⟨_, rfl⟩); (case wi => ((repeat (with_reducible refine IntsAre.cons _ _ ?_)); exact IntsAre.nil)); (case wl => exact (show 7 ≤ 1000000 by decide)); (case' wD => (intro bD bYs bH bTk bF bNw bO1 bI; (try simp only [LCg.Off1, and_true] at bO1); (have hfew := utf_few hb8.1 hb8.2))); (case' wT => (intro bK bT bI boI bC boC bD bM bYs bH bTk bE bN bX bF bNw bOff bNe))))
  (k_with "none src" => (((rename IsRange _ _ _ _ _ _ _ _ => hr9); (refine' NoneSrc.intro rfl ?zqf ?zqn ?zqb ?zqx ?zqp ?zqd hr9 ?zqe ?zqsz ?zrT ?zrD); (case zqf => k_asm); (case zqn => k_asm); (case zqb => k_asm); (case zqx => k_asm); (case zqp => k_asm); (case zqd => k_asm); (case zqe => first | rfl | omega); (case zqsz => walk_at "sz"); (case' zrD => walk_at "none done"); (case' zrT => (walk_at "none turn"; (rename IntsAre _ (flat utf _) => hI9); (have hlI9 := hI9.length); (rename _ < _ => hlt9); (rcases flat_atI [n0, n1, n2, n3] _ hB9 (by first | exact hlt9 | omega) with ⟨hf1, hf2⟩ | ⟨hf3, n9, post9, hm9, hd9⟩))))))
  (k_with "none end" => (((refine' NoneEnd.intro ?zqf ?zqn ?zqt ?zqu ?zqb ?zqx ?zqp ?zqd ?zqo); (case zqo => first | rfl | (rw [decide_eq_true (by omega)]; rfl) | (rw [decide_eq_false (by omega)]; rfl)); (case zqf => k_asm); (case zqn => k_asm); (case zqt => assumption); (case zqu => walk_at "sub"); (case zqb => k_asm); (case zqx => k_asm); (case zqp => k_asm); (case zqd => k_asm))))
  (k_with "call" => (first
    | ((refine' use_ints (utf_c w _ _ ?c1 ?c2) ?k1 ?k2 ?k3 ?k4 ?k5 ?kK ?kd ?ku ?kp ?_); (case kp => trivial); (case c1 => omega); (case c2 => omega); walk_at "use side"; walk_at "new ints")
    | ((refine' use_bounds (bounds_c w) ?k1 ?k2 ?k3 ?k4 ?k5 ?kK ?kd ?ku ?kp ?_); (case kp => trivial); walk_at "use side"; walk_at "new bounds")
    | ((rename IntsAre _ (flat utf _) => hI9); first
       | ((refine' use_ints (read_codes w _ _ _ hI9 ?c1 ?c2 ?c3) ?k1 ?k2 ?k3 ?k4 ?k5 ?kK ?kd ?ku ?kp ?_); walk_at "use side"; (case kp => walk_at "is list"); (case c1 => exact Nat.le_trans (flat_len hen9) (show 100 * 4 ≤ 1000000 by decide)); (case c2 => exact hB9); (case c3 => exact (show 4 ≤ 1000 by decide)); walk_at "new ints")
       | ((refine' use_turn (dies_yes w _ _ _ _ _ hI9 ?c1 ?c2 ?c3 hf1 hf2) ?t0 ?k1 ?k2 ?k3 ?k4 ?k5 ?kD ?kXB ?kTB ?kK ?kd ?ku ?kp ?_); (case c1 => exact Nat.le_trans (flat_len hen9) (show 100 * 4 ≤ 1000000 by decide)); (case c2 => omega); (case c3 => omega); walk_at "use side"; (case t0 => assumption); (case kD => k_asm); (case kXB => k_asm); (case kTB => k_asm); (case kp => walk_at "is list"); walk_at "new turn")
       | ((refine' use_turn (dies_no w _ _ _ _ _ _ _ hI9 ?c1 ?c2 hm9.1 hm9.2 hd9) ?t0 ?k1 ?k2 ?k3 ?k4 ?k5 ?kD ?kXB ?kTB ?kK ?kd ?ku ?kp ?_); (case c1 => exact Nat.le_trans (flat_len hen9) (show 100 * 4 ≤ 1000000 by decide)); (case c2 => omega); walk_at "use side"; (case t0 => assumption); (case kD => k_asm); (case kXB => k_asm); (case kTB => k_asm); (case kp => walk_at "is list"); walk_at "new turn"))))
  (k_with "for" => (first
    | ((with_reducible show wpAny _ _ (pyIter (Value.ref _)) (fun it s₂ => codeAny _ _ _ _ _) _ _); (rename IsRange _ _ _ _ _ _ _ _ => hr9); (rename News _ _ _ _ => hN9); (rename Fr _ _ _ _ => hF9); (with_unfolding_all refine' still_cellF (n := 4) [Str.ofString "other"] rfl rfl rfl rfl hr9 ?yb1 (by decide) hF9 hN9 ?yU ?yd ?yrT ?yrD ?yhE); (case yb1 => first | rfl | omega); (case yU => ((repeat (with_reducible rename _ ∧ _ => hcj9; have := hcj9.1; have := hcj9.2; clear hcj9)); k_updF)); (case yd => k_asm); (case yhE => passes_own); (case' yrD => walk_at "cell done"); (case' yrT => (intro sK sT sU sH sTk sOwn sO sLo sHi sD sOff sF sN; (try dsimp only at sN); (try simp only [List.cons_append, List.nil_append] at sN); have kM := kstMark; (try k_fold); (have hb8 := four_at hB9 _ (by assumption) (by assumption)); (have hl8 := four_at hen9 _ (by assumption) (by assumption)))))
    | ((rename IsRange _ _ _ _ _ _ _ _ => hr9); (rename News _ _ _ _ => hN9); (rename Fr _ _ _ _ => hF9); (with_unfolding_all refine' still_range (n := 4) [Str.ofString "other"] rfl hr9 ?_ (by decide) hF9 hN9 ?_ ?_); (first | rfl | omega); rotate_left; (walk_at "still done"); rotate_right; (walk_at "still turn"; (have hb8 := four_at hB9 _ (by assumption) (by assumption)); (have hl8 := four_at hen9 _ (by assumption) (by assumption))))
    | ((rename News _ _ _ _ => hN9); (rename Fr _ _ _ _ => hF9); (with_unfolding_all refine' each_rows (enc := utf) (nums := [n0, n1, n2, n3]) [] rfl hF9 hN9 ?rr ?rR ?rN hen9 ?rT ?rD); (case rr => k_mem); (case rR => (walk_at "rows are")); (case rN => k_all); (case' rD => (walk_at "rows done"; (rename IntsAre _ (flat utf _) => hI9); (have hlI9 := hI9.length); (have hfl9 : (flat utf [n0, n1, n2, n3]).length ≤ 400 := flat_len hen9))); (case' rT => (walk_at "rows turn"; (rename _ ∈ [n0, n1, n2, n3] => hm9); (obtain ⟨hh8, hm8⟩ := hok9 _ hm9); (have hp8 := hen9 _ hm9))))))
  (k_with "ne" => first
    | ((rename CarriedAll _ (List.map PyData.int _) => hC9); ((have hC8 := carried_nil hC9 (filter_cont hm8)); clear hC9; subst hC8; have hI0 := IntsAre.nil))
    | fail)
  (k_with "lt" => ((refine' lt_utf ?a1 ?a2 ?a3 ?a4 ?a7 ?a8 ?a9 ?_); (case a7 => kmk_list); (case a8 => kmk_list); (case a1 => with_reducible assumption); (case a2 => with_reducible assumption); (case a3 => omega); (case a4 => omega); (case a9 => first | ke_room | (show _ < cLine; omega))))
  (k_with "item" => (first
    | ((refine' item_anyK ?k1 hI4 ?k3 ?k4 ?k5 ?_ ?k6); (case k1 => is_list); (case k3 => omega); (case k4 => (show _ < ((4 : Nat) : Int); omega)); (case k5 => omega); (case k6 => with_unfolding_all rfl); intro _; (try k_fold))
    | ((rename IntsAre _ (flat utf _) => hI9); (refine' item_anyK ?k1 hI9 ?k3 ?k4 ?k5 ?_ ?k6); (case k1 => is_list); (case k3 => omega); (case k4 => omega); (case k5 => omega); (case k6 => with_unfolding_all rfl); intro _; (try k_fold))
    | ((rename News _ _ _ _ => hN9); (refine' row_item (enc := utf) (nums := [n0, n1, n2, n3]) hN9 ?im ?iR ?i0 ?i1 ?i2 ?_ ?is); (case im => k_mem); (case iR => (walk_at "rows are")); (case i0 => omega); (case i1 => (show _ < ((4 : Nat) : Int); omega)); (case i2 => exact (show 4 < 1000000 by decide)); (case is => with_unfolding_all rfl); intro iR iWs iN iNews iI; (try k_fold))))
  (k_with "state" => (exact AccInv.turn (by assumption) (by assumption) (by rw [List.length_append]; rfl) (hen9 _ (by assumption)).2))
  (repeat' (first | ((with_reducible first | refine Mine.seq_nil ?_ | refine Mine.seq_next ?_ | refine Mine.seq_ret ?_); (try dsimp only)) | (k_unfold; (try dsimp only)) | (k_end; kc_close) | walk1 | (dsimp only; walk1) | (leave1; walk_say "STEP leave1"; try dsimp only) | fail "no step"))
  all_goals first
    | exact hret _ _ _ (by assumption) rfl
    | (exfalso; exact Bool.false_ne_true ((bne_self_eq_false _).symm.trans (by assumption)))
    | (exfalso; exact absurd hfew (by assumption))
    | (exfalso; exact absurd (by assumption) hh8)
end Mine
-- Q5
open PySem PySem.W PyProof.Rows PySem.Calls PySem.Spec
namespace Mine
section
variable {w : World} {d : Nat} {f : Addr} {args : List Value} {pre : Heap → Prop} {mean : ExcName → Option Value} {mg mb : Str → Option Value} {dp un : Nat} {gd : Option (List Code)} {cn : Str} {cs : Scope} {a : Addr} {ccd : Value} {cl : List (Str × Addr)} {outer : List Env} {A₀ : Around} {base h₀ : Heap} {L : Addr} {m : Str → Option Value} {s : Shared}
    {Q E : Value → Shared → Prop} {news : List (Addr × Obj)}
theorem use_text {x : Str} (C : PCall w d f args pre (fun _ _ r => NewText r x)) (B : Below A₀ base outer h₀) (F : Fr h₀ L s.heap m) (X : (Mine.frag w.params).In h₀) (N : News h₀ L s.heap news) (T : Top Mine.view lks mean mg mb h₀) (hk : cs.kind = .function)
    (hdp : dp + d < recursionLimit) (hun : un + 10 * d < cLine) (hp : pre s.heap)
    (ret : ∀ u h' tk', Fr h₀ L h' m → News h₀ L h' news → Q (.str x u) { s with heap := h', toks := tk' }) :
    wpAny (model prg w) (ktrTop dp un gd cn cs L a ccd cl outer) (call (.ref f) args) Q E s :=
  C _ _ _ _ _ _ _ _ _ _ _ _ _ _ _ _ _ _ _ _ B F X T hk hdp hun hp fun r h' tk' k p => by
    obtain ⟨u, rfl⟩ := p
    exact ret u h' tk' (fr_stays F k) (news_stays N k)
end
theorem ints_open1 {ws : List Value} {a : Int} {r : List Int} (h : IntsAre ws (a :: r)) : ∃ t vs, ws = .int a t :: vs ∧ IntsAre vs r := by
  cases h with
  | cons n t h => exact ⟨t, _, rfl, h⟩
theorem ints_open0 {ws : List Value} (h : IntsAre ws []) : ws = [] := by
  cases h; rfl
theorem oct_bound (z : Int) : 0 ≤ z.fmod 256 ∧ z.fmod 256 < 256 := by
  rw [Int.fmod_eq_emod_of_nonneg _ (by decide)]; lia
theorem oct_head {x : Int} : List.take 4 (List.map (fun k' => (37 * k' + 91 * k' * k').fmod 256) (rangeKs 0 (x - 0).toNat)) = [] ∨ List.take 4 (List.map (fun k' => (37 * k' + 91 * k' * k').fmod 256) (rangeKs 0 (x - 0).toNat)) = [0] ∨
    List.take 4 (List.map (fun k' => (37 * k' + 91 * k' * k').fmod 256) (rangeKs 0 (x - 0).toNat)) = [0, 128] ∨ List.take 4 (List.map (fun k' => (37 * k' + 91 * k' * k').fmod 256) (rangeKs 0 (x - 0).toNat)) = [0, 128, 182] ∨
    List.take 4 (List.map (fun k' => (37 * k' + 91 * k' * k').fmod 256) (rangeKs 0 (x - 0).toNat)) = [0, 128, 182, 162] := by
  generalize (x - 0).toNat = n
  rcases n with _ | _ | _ | _ | n
  · exact .inl (by decide)
  · exact .inr (.inl (by decide))
  · exact .inr (.inr (.inl (by decide)))
  · exact .inr (.inr (.inr (.inl (by decide))))
  · refine .inr (.inr (.inr (.inr ?_)))
    rw [← List.map_take]
    have e : List.take 4 (rangeKs 0 (n + 1 + 1 + 1 + 1)) = [0, 1, 2, 3] := by
      unfold rangeKs
      rw [← List.map_take, List.take_range, show min 4 (n + 1 + 1 + 1 + 1) = 4 by lia]
      decide
    rw [e]
    decide
theorem slice_upto {prog : Program} {w : World} {A : Around} {E : Value → Shared → Prop} {h₀ hh : Heap} {L l : Addr} {m : Str → Option Value} {news : List (Addr × Obj)} {value slice : PySem.Expr} {vs : List Value} {ns : List Int} {y : Int} {t : Tok} {Q : Value → Shared → Prop} {gn : Array GenState} {dr : Drawn} {tk : Nat} {os : OsState}
    (F : Fr h₀ L hh m) (N : News h₀ L hh news) (hl : hh.IsList l vs.toArray) (hi : IntsAre vs ns) (hy : 0 ≤ y) (hz : ns.length ≤ 1000000)
    (h : ∀ D ws h', Fr h₀ L h' m → News h₀ L h' ((D, listOf (List.toArray ws) 0) :: news) → (∀ p ∈ news, p.1 < D) → IntsAre ws (ns.take y.toNat) → Q (.ref D) ⟨h', gn, dr, tk, os⟩)
    (hs : subscripted slice false (.ref l) (.ref hh.objs.size) = operate [.ref hh.objs.size, .ref l] (getItem (.ref l) (.ref hh.objs.size))) (ht : ∀ r, letTemporaryGo value (.ref l) r = pure ()) :
    wpAny (model prog w) A (subscriptTail value slice (.ref l) (.ref hh.objs.size)) Q E ⟨hh.push { cls := .type "slice", data := .fields #[.none, .int y t, .none] }, gn, dr, tk, os⟩ :=
  kmk_slice_ints (s := ⟨hh, gn, dr, tk, os⟩) F N hl .none (.int y t) hi (kmk_upto hi hy) rfl (fun D ws h' F' N' l1 hI _ _ => h D ws h' F' N' l1 hI) hs ht (by rw [List.size_toArray, hi.length, PySem.sizeLine_eq]; lia)
theorem bits_k (w : World) (l : Addr) (vs : List Value) (ns : List Int) (c : Int) (t : Tok) (txt : Str) (hI : IntsAre vs ns) (hlen : ns.length ≤ 4) (hc : c = 8 * (ns.length : Int)) (hS : ((bitText ns (8 * (ns.length : Int))).map (·.length)).sum + (bitText ns (8 * (ns.length : Int))).length * (Str.ofString "").length ≤ 16777216) (hX : Txt.join (Str.ofString "") (bitText ns (8 * (ns.length : Int))) = txt) :
    PCall w 10 95 [.ref l, .int c t, .bool true] (fun h => h.IsList l vs.toArray) (fun _ _ r => NewText r txt) := by
  subst hc hX
  exact bitsOf_c w l vs ns _ t hI hlen rfl hS
theorem nibs_k (w : World) (l : Addr) (vs : List Value) (ns : List Int) (c : Int) (t : Tok) (txt : Str) (hI : IntsAre vs ns) (hlen : ns.length ≤ 1000) (hc : c = 2 * (ns.length : Int)) (hS : ((nibText ns (2 * (ns.length : Int))).map (·.length)).sum + (nibText ns (2 * (ns.length : Int))).length * (Str.ofString "").length ≤ 16777216) (hX : Txt.join (Str.ofString "") (nibText ns (2 * (ns.length : Int))) = txt) :
    PCall w 10 116 [.ref l, .int c t, .bool true] (fun h => h.IsList l vs.toArray) (fun _ _ r => NewText r txt) := by
  subst hc hX
  exact nibsOf_c w l vs ns _ t hI hlen rfl hS
section
variable (w : World) (l : Addr) (c : Int) (t t0 t1 t2 t3 : Tok)
theorem bits_0 (hc : c = 0) : PCall w 10 95 [.ref l, .int c t, .bool true] (fun h => h.IsList l ([] : List Value).toArray) (fun _ _ r => NewText r (Str.ofString "")) :=
  bits_k w l _ [] c t _ .nil (by decide) hc (by decide +kernel) (by decide +kernel)
theorem bits_1 (hc : c = 8) : PCall w 10 95 [.ref l, .int c t, .bool true] (fun h => h.IsList l [Value.int 0 t0].toArray) (fun _ _ r => NewText r (Str.ofString "00000000")) :=
  bits_k w l _ [0] c t _ (.cons _ _ .nil) (by decide) hc (by decide +kernel) (by decide +kernel)
theorem bits_2 (hc : c = 16) : PCall w 10 95 [.ref l, .int c t, .bool true] (fun h => h.IsList l [Value.int 0 t0, .int 128 t1].toArray) (fun _ _ r => NewText r (Str.ofString "0000000010000000")) :=
  bits_k w l _ [0, 128] c t _ (.cons _ _ (.cons _ _ .nil)) (by decide) hc (by decide +kernel) (by decide +kernel)
theorem bits_3 (hc : c = 24) : PCall w 10 95 [.ref l, .int c t, .bool true] (fun h => h.IsList l [Value.int 0 t0, .int 128 t1, .int 182 t2].toArray) (fun _ _ r => NewText r (Str.ofString "000000001000000010110110")) :=
  bits_k w l _ [0, 128, 182] c t _ (.cons _ _ (.cons _ _ (.cons _ _ .nil))) (by decide) hc (by decide +kernel) (by decide +kernel)
theorem bits_4 (hc : c = 32) : PCall w 10 95 [.ref l, .int c t, .bool true] (fun h => h.IsList l [Value.int 0 t0, .int 128 t1, .int 182 t2, .int 162 t3].toArray) (fun _ _ r => NewText r (Str.ofString "00000000100000001011011010100010")) :=
  bits_k w l _ [0, 128, 182, 162] c t _ (.cons _ _ (.cons _ _ (.cons _ _ (.cons _ _ .nil)))) (by decide) hc (by decide +kernel) (by decide +kernel)
theorem nibs_0 (hc : c = 0) : PCall w 10 116 [.ref l, .int c t, .bool true] (fun h => h.IsList l ([] : List Value).toArray) (fun _ _ r => NewText r (Str.ofString "")) :=
  nibs_k w l _ [] c t _ .nil (by decide) hc (by decide +kernel) (by decide +kernel)
theorem nibs_1 (hc : c = 2) : PCall w 10 116 [.ref l, .int c t, .bool true] (fun h => h.IsList l [Value.int 0 t0].toArray) (fun _ _ r => NewText r (Str.ofString "00")) :=
  nibs_k w l _ [0] c t _ (.cons _ _ .nil) (by decide) hc (by decide +kernel) (by decide +kernel)
theorem nibs_2 (hc : c = 4) : PCall w 10 116 [.ref l, .int c t, .bool true] (fun h => h.IsList l [Value.int 0 t0, .int 128 t1].toArray) (fun _ _ r => NewText r (Str.ofString "0080")) :=
  nibs_k w l _ [0, 128] c t _ (.cons _ _ (.cons _ _ .nil)) (by decide) hc (by decide +kernel) (by decide +kernel)
theorem nibs_3 (hc : c = 6) : PCall w 10 116 [.ref l, .int c t, .bool true] (fun h => h.IsList l [Value.int 0 t0, .int 128 t1, .int 182 t2].toArray) (fun _ _ r => NewText r (Str.ofString "0080b6")) :=
  nibs_k w l _ [0, 128, 182] c t _ (.cons _ _ (.cons _ _ (.cons _ _ .nil))) (by decide) hc (by decide +kernel) (by decide +kernel)
theorem nibs_4 (hc : c = 8) : PCall w 10 116 [.ref l, .int c t, .bool true] (fun h => h.IsList l [Value.int 0 t0, .int 128 t1, .int 182 t2, .int 162 t3].toArray) (fun _ _ r => NewText r (Str.ofString "0080b6a2")) :=
  nibs_k w l _ [0, 128, 182, 162] c t _ (.cons _ _ (.cons _ _ (.cons _ _ (.cons _ _ .nil)))) (by decide) hc (by decide +kernel) (by decide +kernel)
end
end Mine
-- Ce
open PySem PySem.W PyProof.Rows PySem.Calls PySem.Spec PyProof.Rows.LCg
namespace Mine
section
variable {prog : Program} {w : World} {A : Around} {E : Value → Shared → Prop} {s : Shared} {env : Env} {h₀ : Heap} {L : Addr} {m : Str → Option Value} {news : List (Addr × Obj)}
/-- an element that only reads -/
def EltEnd (k : Int) (h : Heap) (s₁ : Shared) (v : Value) (s₂ : Shared) : Prop := (∃ t, v = .int k t) ∧ ∃ tk, s₂ = { s₁ with heap := h, toks := tk }
theorem EltEnd.intro {k : Int} {h : Heap} {n : Int} {t : Tok} {tk : Nat} (e : n = k) : EltEnd k h s (.int n t) { s with heap := h, toks := tk } := ⟨⟨t, by rw [e]⟩, tk, rfl⟩
inductive SignSrc (h₀ : Heap) (L : Addr) (m : Str → Option Value) (g : Nat → Int) (prog : Program) (w : World) (A : Around) (env : Env) (elt : PySem.Expr) (x : Str) (scope : Scope) (cl : List (Str × Addr)) (Q : Value → Shared → Prop) : Value → Shared → Prop
  | mk (tx : Str) (t : Tok) (news : List (Addr × Obj)) (s₁ : Shared) : A.handled = none → Fr h₀ L s₁.heap m → News h₀ L s₁.heap news → tx.cps.all (· < 128) = true → tx.cps.size ≤ 1000000 →
    (∀ c u I oI C oC D m₂ ys h tk (E' : Value → Shared → Prop), c ∈ tx.cps.toList → NsObj oC m₂ → m₂ x = some (.str ⟨#[c]⟩ u) → Fr h₀ L h m → News h₀ L h ((I, oI) :: (C, oC) :: (D, lst ys) :: news) → Off3 I C D news → ((@Ne Nat I C) ∧ (@Ne Nat I D) ∧ (@Ne Nat C D)) →
      wpAny (model prog w) A (eval elt (compEnvC scope cl C env)) (EltEnd (g c) h s₁) E' { s₁ with heap := h, toks := tk }) →
    (∀ D ys h tk, Fr h₀ L h m → News h₀ L h ((D, lst ys) :: news) → Off1 D news → IntsAre ys (tx.cps.toList.map g) → Q (.ref D) { s₁ with heap := h, toks := tk }) → SignSrc h₀ L m g prog w A env elt x scope cl Q (.str tx t) s₁
theorem SignSrc.intro {g : Nat → Int} {elt : PySem.Expr} {x : Str} {scope : Scope} {cl : List (Str × Addr)} {Q : Value → Shared → Prop} {t : Tok} (tx : Str) (ns : List Int) (hh : A.handled = none) (F : Fr h₀ L s.heap m) (N : News h₀ L s.heap news) (ha : tx.cps.all (· < 128) = true) (hz : tx.cps.size ≤ 1000000) (hns : tx.cps.toList.map g = ns)
    (turn : ∀ c u I oI C oC D m₂ ys h tk (E' : Value → Shared → Prop), c ∈ tx.cps.toList → NsObj oC m₂ → m₂ x = some (.str ⟨#[c]⟩ u) → Fr h₀ L h m → News h₀ L h ((I, oI) :: (C, oC) :: (D, lst ys) :: news) → Off3 I C D news → ((@Ne Nat I C) ∧ (@Ne Nat I D) ∧ (@Ne Nat C D)) →
      wpAny (model prog w) A (eval elt (compEnvC scope cl C env)) (EltEnd (g c) h s) E' { s with heap := h, toks := tk })
    (done : ∀ D ys h tk, Fr h₀ L h m → News h₀ L h ((D, lst ys) :: news) → Off1 D news → IntsAre ys ns → Q (.ref D) { s with heap := h, toks := tk }) :
    SignSrc h₀ L m g prog w A env elt x scope cl Q (.str tx t) s := .mk tx t news s hh F N ha hz turn (hns ▸ done)
theorem signs_rest {elt : PySem.Expr} {x : Str} {scope : Scope} {cl : List (Str × Addr)} {S : List (Addr × Obj) → Prop} {P : Nat → Value → Prop} {Fin : List Value → List (Addr × Obj) → Prop} {cs : List Nat} (g : Nat → Int) (hS : S news) (hP : ∀ i v, P i v → ∃ c u, cs[i]? = some c ∧ v = .str ⟨#[c]⟩ u)
    (turn : ∀ c u I oI C oC D m₂ ys h tk (E' : Value → Shared → Prop), c ∈ cs → NsObj oC m₂ → m₂ x = some (.str ⟨#[c]⟩ u) → Fr h₀ L h m → News h₀ L h ((I, oI) :: (C, oC) :: (D, lst ys) :: news) → Off3 I C D news → ((@Ne Nat I C) ∧ (@Ne Nat I D) ∧ (@Ne Nat C D)) →
      wpAny (model prog w) A (eval elt (compEnvC scope cl C env)) (EltEnd (g c) h s) E' { s with heap := h, toks := tk })
    (fin : ∀ ys, IntsAre ys (cs.map g) → Fin ys news) : LCg.CompRest prog w A h₀ L m env elt x scope cl s S P Fin cs.length 0 [] news := by
  have key : ∀ (j i : Nat) (ys : List Value), i + j = cs.length → IntsAre ys ((cs.take i).map g) → LCg.CompRest prog w A h₀ L m env elt x scope cl s S P Fin j i ys news := by
    intro j
    induction j with
    | zero =>
      intro i ys hi hy
      obtain rfl : i = cs.length := by omega
      rw [List.take_length] at hy
      exact LCg.CompRest.zero (fin ys hy)
    | succ j ih =>
      intro i ys hi hy
      refine LCg.CompRest.succ ?_
      intro v I oI C oC D m₂ h tk E' hv hC hx' F N off ne
      obtain ⟨c, u, hc, rfl⟩ := hP i v hv
      have hs : (cs.take (i + 1)).map g = (cs.take i).map g ++ [g c] := by
        rw [List.take_add_one, hc]; simp
      refine wpAny_mono (turn c u I oI C oC D m₂ ys h tk E' (List.mem_of_getElem? hc) hC hx' F N off ne) (fun b s₂ hb => ?_) fun _ _ e => e
      obtain ⟨⟨t, rfl⟩, tk₂, rfl⟩ := hb
      refine ⟨h, tk₂, news, rfl, F, N, off, hS, ih (i + 1) _ (by omega) ?_⟩
      rw [hs]
      exact IntsAre.append hy (.cons (g c) t .nil)
  exact key cs.length 0 [] (by omega) (by simpa using IntsAre.nil)
/-- a comprehension over a text's signs whose element only reads -/
theorem ListComp_signs {elt iter : PySem.Expr} {x : Str} {px : Pos} {scope : Scope} {cl : List (Str × Addr)} {pos : Pos} {Q : Value → Shared → Prop} (g : Nat → Int) (_F : Fr h₀ L s.heap m)
    (hclos : closureFor scope env = pure cl) (hcell : ∀ y ∈ scope.names, y.2 ≠ .cell) (hkind : scope.kind = .function)
    (hnames : ∀ y ∈ scope.names, y.2 = .local → scope.names.lookup y.1 = some .local) (hx : scope.names.lookup x = some .local)
    (h : wpAny (model prog w) A (eval iter env) (SignSrc h₀ L m g prog w A env elt x scope cl Q) E s)
    (hs : ∀ x, foldedSetIterable iter env x = pure x) :
    wpAny (model prog w) A (eval (.ListComp elt [⟨.Name x px, iter, [], 0⟩] scope pos) env) Q E s := by
  rw [eval_ListComp]
  refine wpAny_comprehension_free (use := none) rfl hs hclos hkind hnames (wpAny_mono h (fun xv s₁ h₁ => ?_) fun _ _ e => e)
  cases h₁ with | mk tx t news s₁ hh F N ha hz turn done =>
  refine wpAny_pyIter_ascii ha ?_
  have W := Walks.strAscii (prog := prog) (w := w) hh s₁.heap.objs.size tx t
  have hlt : tx.cps.size = tx.cps.toList.length := Array.length_toList.symm
  rw [hlt] at W
  refine LCg.block_U (n := tx.cps.toList.length) (S := fun _ => True) (Fin := fun ys nw => nw = news ∧ IntsAre ys (tx.cps.toList.map g)) W (by rw [PySem.sizeLine_eq]; omega) (fun i h st => st.elim fun o' x => ⟨o', x.1⟩) (fun i h h' o' nw st e e' k N' hS => st.elim fun o2 x => ⟨o', e', Option.some.inj (e.symm.trans x.1) ▸ x.2⟩) hcell hkind hx
    ⟨_, Heap.get?_push_size _ rfl, rfl, rfl⟩ (fun b hb => ?_) (F.keeps fun _ _ e => Heap.get?_push_of_some _ e) (N.grown fun _ _ e => Heap.get?_push_of_some _ e) (Nat.ne_of_lt F.ns.lt) (next_is_new F) (fun p hp => Nat.ne_of_lt (Heap.lt_size (N p hp).1)) trivial
    (signs_rest g trivial (fun i v hv => ?_) turn fun ys hy => ⟨rfl, hy⟩) ?_
  · show b < (s₁.heap.push _).objs.size
    rw [Heap.size_push, List.mem_singleton.mp hb]
    exact Nat.lt_succ_self _
  · obtain ⟨c, u, e, hk⟩ := hv
    exact ⟨c, u, by rw [Array.getElem?_toList]; exact e, hk⟩
  · intro D C h tk m' ys news' F' N' o1 hn hC₀ hD₀ hCL hDL hCD offC hfin
    obtain rfl := hfin.1
    refine ⟨m', hn, fun h'' hs'' => done D ys h'' tk (F'.change hs'' hCL hC₀) (fun p hp => ?_) o1 hfin.2⟩
    refine ⟨hs''.extBut _ _ ?_ (N' p hp).1, (N' p hp).2⟩
    rcases List.mem_cons.mp hp with rfl | hp
    · exact Ne.symm hCD
    · exact offC p hp
end
end Mine
-- Xi
open PySem PySem.W PyProof.Rows PySem.Calls PySem.Spec PySem.W.X
namespace Mine
structure IntRet (s : Shared) (n : Int) (Q : Value → Shared → Prop) : Prop where
  ret : ∀ (u tk' : Nat), Q (.int n u) { s with toks := tk' }
end Mine
open Mine
local macro_rules | `(tactic| x_close) => `(tactic| walk_at "x close int")
namespace Mine
section
variable {w : World} {t u : Tok} {dp un : Nat} {gd : Option (List Code)} {cn : Str} {cs : Scope} {L a : Addr} {ccd : Value} {cl : List (Str × Addr)} {outer : List Env} {s : Shared} {Q E : Value → Shared → Prop}
set_option maxHeartbeats 0 in
theorem int_2_0000 (hd : dp + 20 < recursionLimit) (hu : un + 200 < cLine) (hret : IntRet s 0 Q) :
    wpAny (model prg w) (ktrTop dp un gd cn cs L a ccd cl outer) (call (.type "int") [.str (Str.ofString "0000") t, .int 2 u]) Q E s := by
  unfold prg
  k_fill
  refine around_le 980 9700 ?_ (by unfold recursionLimit at hd; omega) (by unfold cLine at hu; omega)
  k_with_none
  k_with "x close line" => ((rename DieRet _ _ => hr9); (rename Mem _ _ _ _ => hD9); refine' die_use hr9 hD9 ⟨_, _, ?zq9hm⟩; (case zq9hm => (repeat (first | exact List.Mem.head _ | refine List.Mem.tail _ ?_))))
  k_with "x close int" => ((rename IntRet _ _ _ => hr9); exact hr9.ret _ _)
  x_run
set_option maxHeartbeats 0 in
theorem int_2_1000 (hd : dp + 20 < recursionLimit) (hu : un + 200 < cLine) (hret : IntRet s 8 Q) :
    wpAny (model prg w) (ktrTop dp un gd cn cs L a ccd cl outer) (call (.type "int") [.str (Str.ofString "1000") t, .int 2 u]) Q E s := by
  unfold prg
  k_fill
  refine around_le 980 9700 ?_ (by unfold recursionLimit at hd; omega) (by unfold cLine at hu; omega)
  k_with_none
  k_with "x close line" => ((rename DieRet _ _ => hr9); (rename Mem _ _ _ _ => hD9); refine' die_use hr9 hD9 ⟨_, _, ?zq9hm⟩; (case zq9hm => (repeat (first | exact List.Mem.head _ | refine List.Mem.tail _ ?_))))
  k_with "x close int" => ((rename IntRet _ _ _ => hr9); exact hr9.ret _ _)
  x_run
set_option maxHeartbeats 0 in
theorem int_2_1011 (hd : dp + 20 < recursionLimit) (hu : un + 200 < cLine) (hret : IntRet s 11 Q) :
    wpAny (model prg w) (ktrTop dp un gd cn cs L a ccd cl outer) (call (.type "int") [.str (Str.ofString "1011") t, .int 2 u]) Q E s := by
  unfold prg
  k_fill
  refine around_le 980 9700 ?_ (by unfold recursionLimit at hd; omega) (by unfold cLine at hu; omega)
  k_with_none
  k_with "x close line" => ((rename DieRet _ _ => hr9); (rename Mem _ _ _ _ => hD9); refine' die_use hr9 hD9 ⟨_, _, ?zq9hm⟩; (case zq9hm => (repeat (first | exact List.Mem.head _ | refine List.Mem.tail _ ?_))))
  k_with "x close int" => ((rename IntRet _ _ _ => hr9); exact hr9.ret _ _)
  x_run
set_option maxHeartbeats 0 in
theorem int_2_0110 (hd : dp + 20 < recursionLimit) (hu : un + 200 < cLine) (hret : IntRet s 6 Q) :
    wpAny (model prg w) (ktrTop dp un gd cn cs L a ccd cl outer) (call (.type "int") [.str (Str.ofString "0110") t, .int 2 u]) Q E s := by
  unfold prg
  k_fill
  refine around_le 980 9700 ?_ (by unfold recursionLimit at hd; omega) (by unfold cLine at hu; omega)
  k_with_none
  k_with "x close line" => ((rename DieRet _ _ => hr9); (rename Mem _ _ _ _ => hD9); refine' die_use hr9 hD9 ⟨_, _, ?zq9hm⟩; (case zq9hm => (repeat (first | exact List.Mem.head _ | refine List.Mem.tail _ ?_))))
  k_with "x close int" => ((rename IntRet _ _ _ => hr9); exact hr9.ret _ _)
  x_run
set_option maxHeartbeats 0 in
theorem int_2_1010 (hd : dp + 20 < recursionLimit) (hu : un + 200 < cLine) (hret : IntRet s 10 Q) :
    wpAny (model prg w) (ktrTop dp un gd cn cs L a ccd cl outer) (call (.type "int") [.str (Str.ofString "1010") t, .int 2 u]) Q E s := by
  unfold prg
  k_fill
  refine around_le 980 9700 ?_ (by unfold recursionLimit at hd; omega) (by unfold cLine at hu; omega)
  k_with_none
  k_with "x close line" => ((rename DieRet _ _ => hr9); (rename Mem _ _ _ _ => hD9); refine' die_use hr9 hD9 ⟨_, _, ?zq9hm⟩; (case zq9hm => (repeat (first | exact List.Mem.head _ | refine List.Mem.tail _ ?_))))
  k_with "x close int" => ((rename IntRet _ _ _ => hr9); exact hr9.ret _ _)
  x_run
set_option maxHeartbeats 0 in
theorem int_2_0010 (hd : dp + 20 < recursionLimit) (hu : un + 200 < cLine) (hret : IntRet s 2 Q) :
    wpAny (model prg w) (ktrTop dp un gd cn cs L a ccd cl outer) (call (.type "int") [.str (Str.ofString "0010") t, .int 2 u]) Q E s := by
  unfold prg
  k_fill
  refine around_le 980 9700 ?_ (by unfold recursionLimit at hd; omega) (by unfold cLine at hu; omega)
  k_with_none
  k_with "x close line" => ((rename DieRet _ _ => hr9); (rename Mem _ _ _ _ => hD9); refine' die_use hr9 hD9 ⟨_, _, ?zq9hm⟩; (case zq9hm => (repeat (first | exact List.Mem.head _ | refine List.Mem.tail _ ?_))))
  k_with "x close int" => ((rename IntRet _ _ _ => hr9); exact hr9.ret _ _)
  x_run
set_option maxHeartbeats 0 in
theorem int_16_0 (hd : dp + 20 < recursionLimit) (hu : un + 200 < cLine) (hret : IntRet s 0 Q) :
    wpAny (model prg w) (ktrTop dp un gd cn cs L a ccd cl outer) (call (.type "int") [.str (Str.ofString "0") t, .int 16 u]) Q E s := by
  unfold prg
  k_fill
  refine around_le 980 9700 ?_ (by unfold recursionLimit at hd; omega) (by unfold cLine at hu; omega)
  k_with_none
  k_with "x close line" => ((rename DieRet _ _ => hr9); (rename Mem _ _ _ _ => hD9); refine' die_use hr9 hD9 ⟨_, _, ?zq9hm⟩; (case zq9hm => (repeat (first | exact List.Mem.head _ | refine List.Mem.tail _ ?_))))
  k_with "x close int" => ((rename IntRet _ _ _ => hr9); exact hr9.ret _ _)
  x_run
set_option maxHeartbeats 0 in
theorem int_16_8 (hd : dp + 20 < recursionLimit) (hu : un + 200 < cLine) (hret : IntRet s 8 Q) :
    wpAny (model prg w) (ktrTop dp un gd cn cs L a ccd cl outer) (call (.type "int") [.str (Str.ofString "8") t, .int 16 u]) Q E s := by
  unfold prg
  k_fill
  refine around_le 980 9700 ?_ (by unfold recursionLimit at hd; omega) (by unfold cLine at hu; omega)
  k_with_none
  k_with "x close line" => ((rename DieRet _ _ => hr9); (rename Mem _ _ _ _ => hD9); refine' die_use hr9 hD9 ⟨_, _, ?zq9hm⟩; (case zq9hm => (repeat (first | exact List.Mem.head _ | refine List.Mem.tail _ ?_))))
  k_with "x close int" => ((rename IntRet _ _ _ => hr9); exact hr9.ret _ _)
  x_run
set_option maxHeartbeats 0 in
theorem int_16_b (hd : dp + 20 < recursionLimit) (hu : un + 200 < cLine) (hret : IntRet s 11 Q) :
    wpAny (model prg w) (ktrTop dp un gd cn cs L a ccd cl outer) (call (.type "int") [.str (Str.ofString "b") t, .int 16 u]) Q E s := by
  unfold prg
  k_fill
  refine around_le 980 9700 ?_ (by unfold recursionLimit at hd; omega) (by unfold cLine at hu; omega)
  k_with_none
  k_with "x close line" => ((rename DieRet _ _ => hr9); (rename Mem _ _ _ _ => hD9); refine' die_use hr9 hD9 ⟨_, _, ?zq9hm⟩; (case zq9hm => (repeat (first | exact List.Mem.head _ | refine List.Mem.tail _ ?_))))
  k_with "x close int" => ((rename IntRet _ _ _ => hr9); exact hr9.ret _ _)
  x_run
set_option maxHeartbeats 0 in
theorem int_16_6 (hd : dp + 20 < recursionLimit) (hu : un + 200 < cLine) (hret : IntRet s 6 Q) :
    wpAny (model prg w) (ktrTop dp un gd cn cs L a ccd cl outer) (call (.type "int") [.str (Str.ofString "6") t, .int 16 u]) Q E s := by
  unfold prg
  k_fill
  refine around_le 980 9700 ?_ (by unfold recursionLimit at hd; omega) (by unfold cLine at hu; omega)
  k_with_none
  k_with "x close line" => ((rename DieRet _ _ => hr9); (rename Mem _ _ _ _ => hD9); refine' die_use hr9 hD9 ⟨_, _, ?zq9hm⟩; (case zq9hm => (repeat (first | exact List.Mem.head _ | refine List.Mem.tail _ ?_))))
  k_with "x close int" => ((rename IntRet _ _ _ => hr9); exact hr9.ret _ _)
  x_run
set_option maxHeartbeats 0 in
theorem int_16_a (hd : dp + 20 < recursionLimit) (hu : un + 200 < cLine) (hret : IntRet s 10 Q) :
    wpAny (model prg w) (ktrTop dp un gd cn cs L a ccd cl outer) (call (.type "int") [.str (Str.ofString "a") t, .int 16 u]) Q E s := by
  unfold prg
  k_fill
  refine around_le 980 9700 ?_ (by unfold recursionLimit at hd; omega) (by unfold cLine at hu; omega)
  k_with_none
  k_with "x close line" => ((rename DieRet _ _ => hr9); (rename Mem _ _ _ _ => hD9); refine' die_use hr9 hD9 ⟨_, _, ?zq9hm⟩; (case zq9hm => (repeat (first | exact List.Mem.head _ | refine List.Mem.tail _ ?_))))
  k_with "x close int" => ((rename IntRet _ _ _ => hr9); exact hr9.ret _ _)
  x_run
set_option maxHeartbeats 0 in
theorem int_16_2 (hd : dp + 20 < recursionLimit) (hu : un + 200 < cLine) (hret : IntRet s 2 Q) :
    wpAny (model prg w) (ktrTop dp un gd cn cs L a ccd cl outer) (call (.type "int") [.str (Str.ofString "2") t, .int 16 u]) Q E s := by
  unfold prg
  k_fill
  refine around_le 980 9700 ?_ (by unfold recursionLimit at hd; omega) (by unfold cLine at hu; omega)
  k_with_none
  k_with "x close line" => ((rename DieRet _ _ => hr9); (rename Mem _ _ _ _ => hD9); refine' die_use hr9 hD9 ⟨_, _, ?zq9hm⟩; (case zq9hm => (repeat (first | exact List.Mem.head _ | refine List.Mem.tail _ ?_))))
  k_with "x close int" => ((rename IntRet _ _ _ => hr9); exact hr9.ret _ _)
  x_run
end
end Mine
open Mine
-- Tn
open PySem PySem.W PyProof.Rows PySem.Calls PySem.Spec PyProof.Rows.LCg
namespace Mine
noncomputable def octsN (n : Nat) : List Int := [0, 128, 182, 162].take n
noncomputable def bitsL : List Nat := [48, 48, 48, 48, 48, 48, 48, 48, 49, 48, 48, 48, 48, 48, 48, 48, 49, 48, 49, 49, 48, 49, 49, 48, 49, 48, 49, 48, 48, 48, 49, 48]
noncomputable def figsL : List Nat := [48, 48, 56, 48, 98, 54, 97, 50]
noncomputable def bitsS (n : Nat) : Str := ⟨(bitsL.take (8 * n)).toArray⟩
noncomputable def figsS (n : Nat) : Str := ⟨(figsL.take (2 * n)).toArray⟩
noncomputable def hexVal (c : Nat) : Int := if c < 58 then (c : Int) - 48 else (c : Int) - 87
noncomputable def ordVal (c : Nat) : Int := (c : Int)
noncomputable def figV (i : Nat) : Int := hexVal (figsL.getD i 0)
theorem le4 {n : Nat} (h : n ≤ 4) : n = 0 ∨ n = 1 ∨ n = 2 ∨ n = 3 ∨ n = 4 := by omega
theorem octsN_head {x : Int} : ∃ n, n ≤ 4 ∧ List.take 4 (List.map (fun k' => (37 * k' + 91 * k' * k').fmod 256) (rangeKs 0 (x - 0).toNat)) = octsN n := by
  rcases oct_head (x := x) with e | e | e | e | e
  · exact ⟨0, by decide, e⟩
  · exact ⟨1, by decide, e⟩
  · exact ⟨2, by decide, e⟩
  · exact ⟨3, by decide, e⟩
  · exact ⟨4, by decide, e⟩
section
variable {n : Nat} (hn : n ≤ 4)
include hn
theorem octsN_len : (octsN n).length = n := by rcases le4 hn with rfl | rfl | rfl | rfl | rfl <;> rfl
theorem bitsS_len : (bitsS n).length = 8 * n := by rcases le4 hn with rfl | rfl | rfl | rfl | rfl <;> rfl
theorem figsS_len : (figsS n).length = 2 * n := by rcases le4 hn with rfl | rfl | rfl | rfl | rfl <;> rfl
theorem bits_n (w : World) (l : Addr) (vs : List Value) (c : Int) (t : Tok) (hI : IntsAre vs (octsN n)) (hc : c = 8 * (n : Int)) :
    PCall w 10 95 [.ref l, .int c t, .bool true] (fun h => h.IsList l vs.toArray) (fun _ _ r => NewText r (bitsS n)) := by
  rcases le4 hn with rfl | rfl | rfl | rfl | rfl
  · exact bits_k w l vs _ c t _ hI (by decide) hc (by decide +kernel) (by decide +kernel)
  · exact bits_k w l vs _ c t _ hI (by decide) hc (by decide +kernel) (by decide +kernel)
  · exact bits_k w l vs _ c t _ hI (by decide) hc (by decide +kernel) (by decide +kernel)
  · exact bits_k w l vs _ c t _ hI (by decide) hc (by decide +kernel) (by decide +kernel)
  · exact bits_k w l vs _ c t _ hI (by decide) hc (by decide +kernel) (by decide +kernel)
theorem figs_n (w : World) (l : Addr) (vs : List Value) (c : Int) (t : Tok) (hI : IntsAre vs (octsN n)) (hc : c = 2 * (n : Int)) :
    PCall w 10 116 [.ref l, .int c t, .bool true] (fun h => h.IsList l vs.toArray) (fun _ _ r => NewText r (figsS n)) := by
  rcases le4 hn with rfl | rfl | rfl | rfl | rfl
  · exact nibs_k w l vs _ c t _ hI (by decide) hc (by decide +kernel) (by decide +kernel)
  · exact nibs_k w l vs _ c t _ hI (by decide) hc (by decide +kernel) (by decide +kernel)
  · exact nibs_k w l vs _ c t _ hI (by decide) hc (by decide +kernel) (by decide +kernel)
  · exact nibs_k w l vs _ c t _ hI (by decide) hc (by decide +kernel) (by decide +kernel)
  · exact nibs_k w l vs _ c t _ hI (by decide) hc (by decide +kernel) (by decide +kernel)
theorem figs_eq : (List.range (2 * n)).map figV = (figsS n).cps.toList.map hexVal := by rcases le4 hn with rfl | rfl | rfl | rfl | rfl <;> decide +kernel
theorem back_bits : bitRow ((bitsS n).cps.toList.map ordVal) (8 * (n : Int)) = octsN n := by rcases le4 hn with rfl | rfl | rfl | rfl | rfl <;> decide +kernel
theorem back_figs : nibRow ((figsS n).cps.toList.map ordVal) (2 * (n : Int)) = octsN n := by rcases le4 hn with rfl | rfl | rfl | rfl | rfl <;> decide +kernel
theorem rowBits_n (w : World) (l : Addr) (vs : List Value) (c : Int) (t : Tok) (hI : IntsAre vs ((bitsS n).cps.toList.map ordVal)) (hc : c = 8 * (n : Int)) :
    PCall w 10 88 [.ref l, .int c t, .bool true] (fun h => h.IsList l vs.toArray) (fun h₀ h r => NewInts h₀ h r (octsN n)) := by
  have e : ((bitsS n).cps.toList.map ordVal).length = 8 * n := by rw [List.length_map]; exact bitsS_len hn
  have := rowBits_c w l vs _ c t hI (by omega) (by omega)
  rw [hc, back_bits hn] at this
  rw [hc]; exact this
theorem rowFigs_n (w : World) (l : Addr) (vs : List Value) (c : Int) (t : Tok) (hI : IntsAre vs ((figsS n).cps.toList.map ordVal)) (hc : c = 2 * (n : Int)) :
    PCall w 20 109 [.ref l, .int c t, .bool true] (fun h => h.IsList l vs.toArray) (fun h₀ h r => NewInts h₀ h r (octsN n)) := by
  have e : ((figsS n).cps.toList.map ordVal).length = 2 * n := by rw [List.length_map]; exact figsS_len hn
  have := rowNibs_c w l vs _ c t hI (by omega) (by omega)
  rw [hc, back_figs hn] at this
  rw [hc]; exact this
theorem all_ascii : (bitsS n).cps.all (· < 128) = true ∧ (figsS n).cps.all (· < 128) = true := by rcases le4 hn with rfl | rfl | rfl | rfl | rfl <;> exact ⟨by decide +kernel, by decide +kernel⟩
end
section
variable {w : World} {t u : Tok} {dp un : Nat} {gd : Option (List Code)} {cn : Str} {cs : Scope} {L a : Addr} {ccd : Value} {cl : List (Str × Addr)} {outer : List Env} {s : Shared} {Q E : Value → Shared → Prop}
/-- a sign's hex value -/
theorem int_hex {n c : Nat} (hc : c ∈ (figsS n).cps.toList) (hd : dp + 20 < recursionLimit) (hu : un + 200 < cLine) (hret : ∀ u tk', Q (.int (hexVal c) u) { s with toks := tk' }) :
    wpAny (model prg w) (ktrTop dp un gd cn cs L a ccd cl outer) (call (.type "int") [.str ⟨#[c]⟩ t, .int 16 u]) Q E s := by
  have hc' : c ∈ figsL := List.mem_of_mem_take (show c ∈ figsL.take (2 * n) from hc)
  have : c = 48 ∨ c = 56 ∨ c = 98 ∨ c = 54 ∨ c = 97 ∨ c = 50 := by
    simp only [figsL, List.mem_cons, List.not_mem_nil, or_false] at hc'
    omega
  rcases this with rfl | rfl | rfl | rfl | rfl | rfl
  · exact int_16_0 hd hu ⟨hret⟩
  · exact int_16_8 hd hu ⟨hret⟩
  · exact int_16_b hd hu ⟨hret⟩
  · exact int_16_6 hd hu ⟨hret⟩
  · exact int_16_a hd hu ⟨hret⟩
  · exact int_16_2 hd hu ⟨hret⟩
noncomputable def nibT (i : Nat) : Str := ⟨((bitsL.drop (4 * i)).take 4).toArray⟩
theorem int_nibT {i : Nat} (hi : i < 8) (hd : dp + 20 < recursionLimit) (hu : un + 200 < cLine) (hret : ∀ u tk', Q (.int (figV i) u) { s with toks := tk' }) :
    wpAny (model prg w) (ktrTop dp un gd cn cs L a ccd cl outer) (call (.type "int") [.str (nibT i) t, .int 2 u]) Q E s := by
  have : i = 0 ∨ i = 1 ∨ i = 2 ∨ i = 3 ∨ i = 4 ∨ i = 5 ∨ i = 6 ∨ i = 7 := by omega
  rcases this with rfl | rfl | rfl | rfl | rfl | rfl | rfl | rfl
  · exact int_2_0000 hd hu ⟨hret⟩
  · exact int_2_0000 hd hu ⟨hret⟩
  · exact int_2_1000 hd hu ⟨hret⟩
  · exact int_2_0000 hd hu ⟨hret⟩
  · exact int_2_1011 hd hu ⟨hret⟩
  · exact int_2_0110 hd hu ⟨hret⟩
  · exact int_2_1010 hd hu ⟨hret⟩
  · exact int_2_0010 hd hu ⟨hret⟩
theorem slice_nib {n i : Nat} (hn : n ≤ 4) (hi : i < 2 * n) : Txt.slice (bitsS n) (some (4 * (i : Int))) (some (4 * (i : Int) + 4)) = nibT i := by
  have : ∀ n : Nat, n < 5 → ∀ i : Nat, i < 8 → i < 2 * n → Txt.slice (bitsS n) (some (4 * (i : Int))) (some (4 * (i : Int) + 4)) = nibT i := by decide +kernel
  exact this n (by omega) i (by omega) hi
/-- the value of four bits -/
theorem int_nib {n i : Nat} {x y z : Int} (hn : n ≤ 4) (hi : i < 2 * n) (hz : z = (i : Int)) (hx : x = 4 * z) (hy : y = x + 4) (hd : dp + 20 < recursionLimit) (hu : un + 200 < cLine) (hret : ∀ u tk', Q (.int (figV i) u) { s with toks := tk' }) :
    wpAny (model prg w) (ktrTop dp un gd cn cs L a ccd cl outer) (call (.type "int") [.str (Txt.slice (bitsS n) (some x) (some y)) t, .int 2 u]) Q E s := by
  subst hz hx hy
  rw [slice_nib hn hi]
  exact int_nibT (by omega) hd hu hret
end
section
variable {prog : Program} {w : World} {A : Around} {E : Value → Shared → Prop} {s : Shared} {env : Env} {h₀ : Heap} {L : Addr} {m : Str → Option Value} {news : List (Addr × Obj)}
/-- an element of a comprehension over a range: this int, the ledger as it was -/
def RngElt (k : Int) (news : List (Addr × Obj)) (y : Value) (news' : List (Addr × Obj)) : Prop := (∃ t, y = .int k t) ∧ news' = news
theorem range_rest {elt : PySem.Expr} {x : Str} {scope : Scope} {cl : List (Str × Addr)} {Fin : List Value → List (Addr × Obj) → Prop} {n : Nat} {a : Int} (g : Nat → Int)
    (turn : ∀ i t I oI C oC D m₂ ys h tk (E' : Value → Shared → Prop), i < n → NsObj oC m₂ → m₂ x = some (.int (a + (i : Int)) t) → Fr h₀ L h m → News h₀ L h ((I, oI) :: (C, oC) :: (D, lst ys) :: news) → Off3 I C D news → ((@Ne Nat I C) ∧ (@Ne Nat I D) ∧ (@Ne Nat C D)) →
      wpAny (model prog w) A (eval elt (compEnvC scope cl C env)) (CompEnd h₀ L m { s with heap := h, toks := tk } I oI C oC D (lst ys) (fun _ => True) (RngElt (g i) news)) E' { s with heap := h, toks := tk })
    (fin : ∀ ys, IntsAre ys ((List.range n).map g) → Fin ys news) : LCg.CompRest prog w A h₀ L m env elt x scope cl s (fun _ => True) (fun i v => ∃ t, v = .int (a + (i : Int)) t) Fin n 0 [] news := by
  have key : ∀ (j i : Nat) (ys : List Value), i + j = n → IntsAre ys ((List.range i).map g) → LCg.CompRest prog w A h₀ L m env elt x scope cl s (fun _ => True) (fun i v => ∃ t, v = .int (a + (i : Int)) t) Fin j i ys news := by
    intro j
    induction j with
    | zero =>
      intro i ys hi hy
      obtain rfl : i = n := by omega
      exact LCg.CompRest.zero (fin ys hy)
    | succ j ih =>
      intro i ys hi hy
      refine LCg.CompRest.succ ?_
      intro v I oI C oC D m₂ h tk E' hv hC hx' F N off ne
      obtain ⟨t, rfl⟩ := hv
      refine wpAny_mono (turn i t I oI C oC D m₂ ys h tk E' (by omega) hC hx' F N off ne) (fun b s₂ hb => ?_) fun _ _ e => e
      obtain ⟨h', tk', news', e, F', N', off', S', ⟨⟨t', rfl⟩, rfl⟩⟩ := hb
      refine ⟨h', tk', _, e, F', N', off', S', ih (i + 1) _ (by omega) ?_⟩
      rw [List.range_succ, List.map_append]
      exact IntsAre.append hy (.cons (g i) t' .nil)
  exact key n 0 [] (by omega) IntsAre.nil
end
end Mine
-- Ho
namespace Mine
-- names that are taken, so that the head lays no twin there (a twin's proof is quadratic in the constants of a definition)
theorem law_c.tw9702147749150715111 : True := trivial
theorem law_c.tw12828048941115004167 : True := trivial
theorem law_c.tw13886950626050066334 : True := trivial
theorem law_c.tw36155306449322798 : True := trivial
theorem law_c.tw3047245057368650430 : True := trivial
theorem law_c.tw6251366192008792862 : True := trivial
theorem law_c.tw15368031411922966402 : True := trivial
theorem law_c.tw13954635273254850825 : True := trivial
theorem law_c.tw4877472661519418228 : True := trivial
theorem law_c.tw46152254165663863 : True := trivial
theorem law_c.tw16150989119649475813 : True := trivial
theorem law_c.tw5536020165100302552 : True := trivial
theorem law_c.tw17383100777068675330 : True := trivial
theorem law_c.tw4924006107528531479 : True := trivial
theorem law_c.tw4877635375292757600 : True := trivial
theorem law_c.tw18206024166849677919 : True := trivial
theorem law_c.tw18277572270918640816 : True := trivial
theorem law_c.tw7108310052319495264 : True := trivial
theorem law_c.tw8391280794652163336 : True := trivial
theorem law_c.tw11666154385677391323 : True := trivial
theorem law_c.tw9593299197992939740 : True := trivial
theorem law_c.tw17023644574711033044 : True := trivial
theorem law_c.tw8548883244200322078 : True := trivial
theorem law_c.tw9136973700755925913 : True := trivial
theorem law_c.tw2088974672220748657 : True := trivial
theorem law_c.tw9567891230319512743 : True := trivial
theorem law_c.tw4533432486630764286 : True := trivial
theorem law_c.tw15069802469565764775 : True := trivial
theorem law_c.tw7341226906522842231 : True := trivial
theorem law_c.tw9090044844357797152 : True := trivial
theorem law_c.tw14160070669829289019 : True := trivial
theorem law_c.tw4314265154523126265 : True := trivial
theorem law_c.tw16292036487153292930 : True := trivial
theorem law_c.tw5633768219957309478 : True := trivial
theorem law_c.tw11082958727317453428 : True := trivial
theorem law_c.tw1154824723305502223 : True := trivial
theorem law_c.tw14914163846432941067 : True := trivial
theorem law_c.tw5419877051222649365 : True := trivial
theorem law_c.tw644799804119127138 : True := trivial
theorem law_c.tw9543458965512515276 : True := trivial
theorem law_c.tw9507872663738837123 : True := trivial
theorem law_c.tw15061846141366356703 : True := trivial
theorem law_c.tw1561412336896222401 : True := trivial
theorem law_c.tw9313931710319832229 : True := trivial
theorem law_c.tw11769880715929472272 : True := trivial
theorem law_c.tw17306356991965109563 : True := trivial
theorem law_c.tw8382178493717427875 : True := trivial
theorem law_c.tw642512495319346496 : True := trivial
theorem law_c.tw4083354117351136915 : True := trivial
theorem law_c.tw2101017396784040757 : True := trivial
theorem law_c.tw18381116990749981125 : True := trivial
theorem law_c.tw13272656121345520946 : True := trivial
theorem law_c.tw4290417295398221871 : True := trivial
theorem law_c.tw5845401570808609688 : True := trivial
theorem law_c.tw7801276480158770400 : True := trivial
theorem law_c.tw16348609772658679643 : True := trivial
theorem law_c.tw17230795389406110098 : True := trivial
theorem law_c.tw5065394461653114799 : True := trivial
theorem law_c.tw15187784471688474359 : True := trivial
theorem law_c.tw10809624099780417934 : True := trivial
theorem law_c.tw17004619880799453777 : True := trivial
theorem law_c.tw9450145274630838016 : True := trivial
theorem law_c.tw10146290198091892697 : True := trivial
theorem law_c.tw2812928727658681917 : True := trivial
theorem law_c.tw2342945635032188363 : True := trivial
theorem law_c.tw9116728015619838955 : True := trivial
theorem law_c.tw6732700363146355683 : True := trivial
theorem law_c.tw11500880152897323899 : True := trivial
theorem law_c.tw8097140062321382531 : True := trivial
theorem law_c.tw3920090367984338563 : True := trivial
theorem law_c.tw3334792890579062401 : True := trivial
theorem law_c.tw9670417839608145280 : True := trivial
theorem law_c.tw13449833565754566962 : True := trivial
theorem law_c.tw11491754449754650872 : True := trivial
theorem law_c.tw3366812680821544699 : True := trivial
theorem law_c.tw17718582698147650981 : True := trivial
theorem law_c.tw17391408249415666518 : True := trivial
theorem law_c.tw5887121148696537868 : True := trivial
theorem law_c.tw1810980530949481009 : True := trivial
theorem law_c.tw11214441105173567201 : True := trivial
theorem law_c.tw5603688029362841770 : True := trivial
theorem law_c.tw15585453472921867833 : True := trivial
theorem law_c.tw17153319505858597348 : True := trivial
theorem law_c.tw4932346522291674966 : True := trivial
theorem law_c.tw10026248949326101980 : True := trivial
theorem law_c.tw9632272437396009281 : True := trivial
theorem law_c.tw9429049518365231842 : True := trivial
theorem law_c.tw8858762937111809321 : True := trivial
theorem law_c.tw15017595864100421772 : True := trivial
theorem law_c.tw13396831162208291140 : True := trivial
theorem law_c.tw5491225338009057408 : True := trivial
theorem law_c.tw730103196889920084 : True := trivial
theorem law_c.tw16213603772796528082 : True := trivial
theorem law_c.tw14772087955264924978 : True := trivial
theorem law_c.tw16605850139604470355 : True := trivial
theorem law_c.tw2253097456804933953 : True := trivial
theorem law_c.tw4456157975659426088 : True := trivial
theorem law_c.tw11581359309578077156 : True := trivial
theorem law_c.tw6735953089738567025 : True := trivial
theorem law_c.tw3994802728446421355 : True := trivial
theorem law_c.tw6294609140413274699 : True := trivial
theorem law_c.tw13640077843541836474 : True := trivial
theorem law_c.tw9109127305203854156 : True := trivial
theorem law_c.tw15393204959586802465 : True := trivial
theorem law_c.tw2401387455810566868 : True := trivial
theorem law_c.tw12287083694182824960 : True := trivial
theorem law_c.tw8613924007910594588 : True := trivial
theorem law_c.tw14974285923072340139 : True := trivial
theorem law_c.tw13784648969534262512 : True := trivial
theorem law_c.tw5841026284195429818 : True := trivial
theorem law_c.tw11478439191860722660 : True := trivial
theorem law_c.tw14548431628937855642 : True := trivial
theorem law_c.tw6601782869686359025 : True := trivial
theorem law_c.tw10734915835589103907 : True := trivial
theorem law_c.tw6097846700542359755 : True := trivial
theorem law_c.tw9753300115611126994 : True := trivial
theorem law_c.tw5729943386901603888 : True := trivial
theorem law_c.tw15975916395125711005 : True := trivial
theorem law_c.tw3974923773525702718 : True := trivial
theorem law_c.tw6386681686986627643 : True := trivial
theorem law_c.tw1025574630619762869 : True := trivial
theorem law_c.tw3781835916476042961 : True := trivial
theorem law_c.tw130037689452552929 : True := trivial
theorem law_c.tw10019278799205213594 : True := trivial
theorem law_c.tw4270561529077668854 : True := trivial
theorem law_c.tw10175632899617297225 : True := trivial
theorem law_c.tw14531774015093148808 : True := trivial
theorem law_c.tw6518883605647512754 : True := trivial
theorem law_c.tw8477441334398038514 : True := trivial
theorem law_c.tw18329163915231195897 : True := trivial
theorem law_c.tw3913000558670624197 : True := trivial
theorem law_c.tw12264304111191439031 : True := trivial
theorem law_c.tw12184874320777511736 : True := trivial
theorem law_c.tw3875812229111904734 : True := trivial
theorem law_c.tw5487000912392437715 : True := trivial
theorem law_c.tw14442916727907879335 : True := trivial
theorem law_c.tw8886312561052065848 : True := trivial
theorem law_c.tw13766866848607418690 : True := trivial
theorem law_c.tw6108051170504378868 : True := trivial
theorem law_c.tw9189633516056717686 : True := trivial
theorem law_c.tw11989089117428793571 : True := trivial
theorem law_c.tw13638031403249971306 : True := trivial
theorem law_c.tw1403487825865981767 : True := trivial
theorem law_c.tw5424514758907598777 : True := trivial
theorem law_c.tw10039468732423441760 : True := trivial
theorem law_c.tw15357522356426787490 : True := trivial
theorem law_c.tw15613107329707517717 : True := trivial
theorem law_c.tw14563998450604647306 : True := trivial
theorem law_c.tw4768040069589844498 : True := trivial
theorem law_c.tw1364809381038419124 : True := trivial
theorem law_c.tw503425908863890726 : True := trivial
theorem law_c.tw8852619593870311421 : True := trivial
theorem law_c.tw4900387345159144489 : True := trivial
theorem law_c.tw18112203968847162435 : True := trivial
theorem law_c.tw2127581772165749060 : True := trivial
theorem law_c.tw12953322731441165519 : True := trivial
theorem law_c.tw3185693460548815315 : True := trivial
theorem law_c.tw10609774071695021227 : True := trivial
theorem law_c.tw8617747863928125724 : True := trivial
theorem law_c.tw4423370492502222767 : True := trivial
theorem law_c.tw8128698389356206281 : True := trivial
theorem law_c.tw11916183783090090600 : True := trivial
theorem law_c.tw16421180219186553153 : True := trivial
theorem law_c.tw15066340673752268838 : True := trivial
theorem law_c.tw10583894170002139017 : True := trivial
theorem law_c.tw13866175066250666561 : True := trivial
theorem law_c.tw11354158763671816761 : True := trivial
theorem law_c.tw9206205835432510205 : True := trivial
theorem law_c.tw6475998140460150644 : True := trivial
theorem law_c.tw15562639085971843714 : True := trivial
theorem law_c.tw6373506062091147208 : True := trivial
theorem law_c.tw610763709887703907 : True := trivial
theorem law_c.tw4304770423871486972 : True := trivial
theorem law_c.tw15106725824276960819 : True := trivial
theorem law_c.tw17635118586047754951 : True := trivial
theorem law_c.tw15039611086249059537 : True := trivial
theorem law_c.tw11215942608365079135 : True := trivial
theorem law_c.tw10730742245401732763 : True := trivial
theorem law_c.tw8661014529662947260 : True := trivial
theorem law_c.tw15106043361389969724 : True := trivial
theorem law_c.tw985293148595198171 : True := trivial
theorem law_c.tw946184565195245203 : True := trivial
theorem law_c.tw15004626911740565116 : True := trivial
theorem law_c.tw3647013401144206811 : True := trivial
theorem law_c.tw5330971077175433526 : True := trivial
theorem law_c.tw1757331705577113658 : True := trivial
theorem law_c.tw5986539570829349794 : True := trivial
theorem law_c.tw11269630106062683613 : True := trivial
theorem law_c.tw17831543104751495038 : True := trivial
theorem law_c.tw6669551052575464596 : True := trivial
theorem law_c.tw187916242650688148 : True := trivial
theorem law_c.tw13291173882741035306 : True := trivial
theorem law_c.tw12761648171035824642 : True := trivial
theorem law_c.tw17141789141341574439 : True := trivial
theorem law_c.tw16118911369643883245 : True := trivial
theorem law_c.tw5174380645278087498 : True := trivial
theorem law_c.tw14555284366897356326 : True := trivial
theorem law_c.tw3331668490656226972 : True := trivial
theorem law_c.tw12407970090117043041 : True := trivial
theorem law_c.tw12961219706647154077 : True := trivial
theorem law_c.tw16660237060677460485 : True := trivial
theorem law_c.tw16045850138089687606 : True := trivial
theorem law_c.tw15918563053587419257 : True := trivial
theorem law_c.tw5086021630204348800 : True := trivial
theorem law_c.tw18051210660339452088 : True := trivial
theorem law_c.tw13682381493192253485 : True := trivial
theorem law_c.tw11852836781698918964 : True := trivial
theorem law_c.tw9411167528009221306 : True := trivial
theorem law_c.tw6888045501370264899 : True := trivial
theorem law_c.tw1998506265031440777 : True := trivial
theorem law_c.tw4118865893520315554 : True := trivial
theorem law_c.tw5760048848940517704 : True := trivial
theorem law_c.tw8999348249510426259 : True := trivial
theorem law_c.tw735932581101604937 : True := trivial
theorem law_c.tw16307130027749314423 : True := trivial
theorem law_c.tw11851709299934164966 : True := trivial
theorem law_c.tw13062454314279850895 : True := trivial
theorem law_c.tw10942870853609192026 : True := trivial
theorem law_c.tw9119396204666201725 : True := trivial
theorem law_c.tw13064694566507343552 : True := trivial
theorem law_c.tw836996168557711086 : True := trivial
theorem law_c.tw13849490924039349935 : True := trivial
theorem law_c.tw10072571576952147132 : True := trivial
theorem law_c.tw1268765556364902182 : True := trivial
theorem law_c.tw616571751687661516 : True := trivial
theorem law_c.tw3515449159412417438 : True := trivial
theorem law_c.tw8846057846846244870 : True := trivial
theorem law_c.tw6109445899014758140 : True := trivial
theorem law_c.tw13816585080585275915 : True := trivial
theorem law_c.tw4858972340857202357 : True := trivial
theorem law_c.tw18069565012947739552 : True := trivial
theorem law_c.tw10076957669968561112 : True := trivial
theorem law_c.tw12712461626174949941 : True := trivial
theorem law_c.tw17043361460024675732 : True := trivial
theorem law_c.tw16378099598053009798 : True := trivial
theorem law_c.tw445601219428906718 : True := trivial
theorem law_c.tw14940486257889888653 : True := trivial
theorem law_c.tw9029843074558915245 : True := trivial
theorem law_c.tw5794886169584472202 : True := trivial
theorem law_c.tw15340484441776152374 : True := trivial
theorem law_c.tw8532378407691336261 : True := trivial
theorem law_c.tw509118670019572 : True := trivial
theorem law_c.tw6081822638579704323 : True := trivial
theorem law_c.tw14106299885222923796 : True := trivial
theorem law_c.tw12572513833960752335 : True := trivial
theorem law_c.tw16317295247345293776 : True := trivial
theorem law_c.tw8237136578438552127 : True := trivial
theorem law_c.tw3882178430883226758 : True := trivial
theorem law_c.tw17501955391876729240 : True := trivial
theorem law_c.tw250694975803932749 : True := trivial
theorem law_c.tw12438364140160687248 : True := trivial
theorem law_c.tw4138935220065399470 : True := trivial
theorem law_c.tw14985963031575220386 : True := trivial
theorem law_c.tw6192538509667167483 : True := trivial
theorem law_c.tw17846957575299013808 : True := trivial
theorem law_c.tw17680225564138232693 : True := trivial
theorem law_c.tw981658326023335762 : True := trivial
theorem law_c.tw3160472422087498610 : True := trivial
theorem law_c.tw10607355730885848573 : True := trivial
theorem law_c.tw11849813193592129120 : True := trivial
theorem law_c.tw10442186380630363699 : True := trivial
theorem law_c.tw17359437861006384489 : True := trivial
theorem law_c.tw10274210951455021927 : True := trivial
theorem law_c.tw1142250597253989472 : True := trivial
theorem law_c.tw1019495351431284653 : True := trivial
theorem law_c.tw17446755193483317344 : True := trivial
theorem law_c.tw6446957567282136870 : True := trivial
theorem law_c.tw6119358176980219316 : True := trivial
theorem law_c.tw11191263940976460204 : True := trivial
theorem law_c.tw977159079316563769 : True := trivial
theorem law_c.tw3163381538952705578 : True := trivial
theorem law_c.tw15722328878202830099 : True := trivial
theorem law_c.tw13659907522684205509 : True := trivial
theorem law_c.tw851474499198239430 : True := trivial
theorem law_c.tw14918753674790691899 : True := trivial
theorem law_c.tw17946374656795088444 : True := trivial
theorem law_c.tw6198167404420003582 : True := trivial
theorem law_c.tw564674810758344497 : True := trivial
theorem law_c.tw18385939076565133400 : True := trivial
theorem law_c.tw3612111282737843230 : True := trivial
theorem law_c.tw756602197972143639 : True := trivial
theorem law_c.tw10361366647069048719 : True := trivial
theorem law_c.tw13755943495728983216 : True := trivial
theorem law_c.tw17854245997499929645 : True := trivial
theorem law_c.tw9856314132082165587 : True := trivial
theorem law_c.tw5016319318972313542 : True := trivial
theorem law_c.tw17255823763673312022 : True := trivial
theorem law_c.tw13757021701291425348 : True := trivial
theorem law_c.tw7875682484165068036 : True := trivial
theorem law_c.tw2772876122515337976 : True := trivial
theorem law_c.tw8663034191901343289 : True := trivial
theorem law_c.tw16912399268653680881 : True := trivial
theorem law_c.tw2454049412260955695 : True := trivial
theorem law_c.tw15248510070338988381 : True := trivial
theorem law_c.tw17945527723753557357 : True := trivial
theorem law_c.tw3951601365282613287 : True := trivial
theorem law_c.tw17749000572496424365 : True := trivial
theorem law_c.tw1825138564487588202 : True := trivial
theorem law_c.tw14152435099342654099 : True := trivial
theorem law_c.tw18153863557870550225 : True := trivial
theorem law_c.tw15502478137754583596 : True := trivial
theorem law_c.tw7128717773174367475 : True := trivial
theorem law_c.tw14583076328478409583 : True := trivial
theorem law_c.tw4559951984486120551 : True := trivial
theorem law_c.tw14627011288160842643 : True := trivial
theorem law_c.tw9143400404712283229 : True := trivial
theorem law_c.tw1635070978997878927 : True := trivial
theorem law_c.tw15514468460747151594 : True := trivial
theorem law_c.tw7238161798160865106 : True := trivial
theorem law_c.tw674145437352356894 : True := trivial
theorem law_c.tw9344654376355583253 : True := trivial
theorem law_c.tw6795039280036187506 : True := trivial
theorem law_c.tw793451539792840715 : True := trivial
theorem law_c.tw10754204047632621260 : True := trivial
theorem law_c.tw194169757966499403 : True := trivial
theorem law_c.tw8463417142705129548 : True := trivial
theorem law_c.tw8528160970276375997 : True := trivial
theorem law_c.tw4634449634737526047 : True := trivial
theorem law_c.tw14104736379768268535 : True := trivial
theorem law_c.tw71363296728027026 : True := trivial
theorem law_c.tw15215080351491105562 : True := trivial
theorem law_c.tw5345015377345796187 : True := trivial
theorem law_c.tw14924281574891775137 : True := trivial
theorem law_c.tw15844239485603692231 : True := trivial
theorem law_c.tw17726755053524217784 : True := trivial
theorem law_c.tw2522940504093191060 : True := trivial
theorem law_c.tw11920785599344843403 : True := trivial
theorem law_c.tw18436040893711772804 : True := trivial
theorem law_c.tw7088337040838132187 : True := trivial
end Mine
-- L1
open PySem PySem.W PyProof.Rows PySem.Calls PySem.Spec
namespace Mine
structure Kp (p : Prop) : Prop where
  out : p
theorem fr_any {h₀ h : Heap} {L : Addr} {m : Str → Option Value} (F : Fr h₀ L h m) : ∃ m0, Fr h₀ L h m0 := ⟨m, F⟩
theorem news_drop {h₀ h : Heap} {L : Addr} {p a b c d e : Addr × Obj} {r : List (Addr × Obj)} (N : News h₀ L h (p :: a :: b :: c :: d :: e :: r)) : News h₀ L h (p :: r) := fun q hq => by
  rcases List.mem_cons.mp hq with rfl | hq
  · exact N _ List.mem_cons_self
  · exact N q (by simp [hq])
theorem head_n {ws : List Value} {x : Int} (h : IntsAre ws (List.take (Int.toNat 4) (List.map (fun k' => (37 * k' + 91 * k' * k').fmod 256) (rangeKs 0 (x - 0).toNat)))) : ∃ n, n ≤ 4 ∧ IntsAre ws (octsN n) := by
  obtain ⟨n, hn, e⟩ := octsN_head (x := x)
  exact ⟨n, hn, e ▸ h⟩
theorem comp_range {prog : Program} {w : World} {A : Around} {env : Env} {h₀ : Heap} {L : Addr} {m : Str → Option Value} {news : List (Addr × Obj)} {elt : PySem.Expr} {x : Str} {scope : Scope} {cl : List (Str × Addr)} {Fin : Shared → List Value → List (Addr × Obj) → Prop} {r : Addr} {b : Int} {t u v : Tok} {n : Nat} {s₁ : Shared} (g : Nat → Int)
    (hh : A.handled = none) (F : Fr h₀ L s₁.heap m) (N : News h₀ L s₁.heap news) (hr : IsRange s₁.heap r 0 b 1 t u v) (hb : b = (n : Int)) (hsz : n ≤ 1000000)
    (turn : ∀ hg i t I oI C oC D m₂ ys h tk (E' : Value → Shared → Prop), i < n → LCg.NsObj oC m₂ → m₂ x = some (.int (0 + (i : Int)) t) → Fr h₀ L h m → News h₀ L h ((I, oI) :: (C, oC) :: (D, LCg.lst ys) :: news) → LCg.Off3 I C D news → ((@Ne Nat I C) ∧ (@Ne Nat I D) ∧ (@Ne Nat C D)) →
      wpAny (model prog w) A (eval elt (compEnvC scope cl C env)) (LCg.CompEnd h₀ L m { { s₁ with heap := hg } with heap := h, toks := tk } I oI C oC D (LCg.lst ys) (fun _ => True) (RngElt (g i) news)) E' { s₁ with heap := h, toks := tk })
    (fin : ∀ hg ys, IntsAre ys ((List.range n).map g) → Fin { s₁ with heap := hg } ys news) : LCg.CompSrc prog w A h₀ L m env elt x scope cl Fin (.ref r) s₁ := by
  refine LCg.CompSrc.range (n := n) hh F N hr (range_small (by omega) (by omega) (by omega) (by omega) (by omega) (by omega)) (range_size (n := n) (by omega) (by rw [Int.ediv_one]; split <;> omega)) (by rw [PySem.sizeLine_eq]; omega) fun hg => ?_
  exact range_rest g (fun i t I oI C oC D m₂ ys h tk E' => turn hg i t I oI C oC D m₂ ys h tk E') (fin hg)
section
variable {w : World} {d : Nat} {f : Addr} {args : List Value} {pre : Heap → Prop} {mean : ExcName → Option Value} {mg mb : Str → Option Value} {dp un : Nat} {gd : Option (List Code)} {cn : Str} {cs : Scope} {a : Addr} {ccd : Value} {cl : List (Str × Addr)} {A₀ : Around} {base h₀ : Heap} {L : Addr} {m : Str → Option Value} {s : Shared}
    {Q E : Value → Shared → Prop} {news : List (Addr × Obj)}
theorem use_turn0 {v : Value} (C : PTurn w d f args pre (fun _ _ r => r = v)) (B : Below A₀ base [] h₀) (F : Fr h₀ L s.heap m) (X : (Mine.frag w.params).In h₀) (N : News h₀ L s.heap news) (T : Top Mine.view lks mean mg mb h₀)
    (XB : (Mine.frag w.params).In base) (TB : Top Mine.view lks mean mg mb base) (hk : cs.kind = .function) (hdp : dp + d < recursionLimit) (hun : un + 10 * d < cLine) (hp : pre s.heap)
    (ret : ∀ h' tk', Fr h₀ L h' m → News h₀ L h' news → Q v { s with heap := h', toks := tk' }) :
    wpAny (model prg w) (ktrTop dp un gd cn cs L a ccd cl []) (call (.ref f) args) Q E s :=
  use_turn C KtsTurn.refl B F X N T ktsDicts_nil XB TB hk hdp hun hp fun g h' tk' T1 F1 N1 _ _ _ _ => by
    refine ret h' tk' ⟨F1.ns, fun b o e => F1.keep b o (T1.other b o e (fun q => nomatch q)), ?_⟩ fun q hq => ⟨(N1 q hq).1, (N1 q hq).2.1, ?_⟩
    · rw [← T1.size]; exact F1.above
    · cases e : h₀.get? q.1 with
      | none => rfl
      | some o => have z := T1.other _ _ e (fun q => nomatch q); rw [(N1 q hq).2.2] at z; cases z
end
set_option Elab.async true in
set_option maxHeartbeats 8000000 in
theorem law_c : PySem.Challenge.rw_tk0063_01.Holds := by
  w_on; o_law
  o_head (kHook Mine.frag Mine.fragAs (fun _ => by kernel_rfl))
  (case hw => w_witness2)
  k_with_none
  k_with "op line" => (intro opX opE; (try simp only [bitAnd_m1, bitAnd_m4, bitAnd_m6, bitAnd_m7, bitAnd_m8, Int.reduceToNat, Int.reducePow] at opE))
  k_with "binaryOp BitAnd int int" => (k_here; (fail_if_success (with_reducible show wpAny _ _ (binaryOp _ (Value.int (OfNat.ofNat _) _) (Value.int (OfNat.ofNat _) _)) _ _ _)); (with_reducible refine o_and ?_); walk_at "op line")
  k_with "inplaceOp BitAnd int int" => (k_here; (fail_if_success (with_reducible show wpAny _ _ (inplaceOp _ (Value.int (OfNat.ofNat _) _) (Value.int (OfNat.ofNat _) _)) _ _ _)); (with_reducible refine o_iand ?_); walk_at "op line")
  k_with "binaryOp BitOr int int" => (k_here; (fail_if_success (with_reducible show wpAny _ _ (binaryOp _ (Value.int (OfNat.ofNat _) _) (Value.int (OfNat.ofNat _) _)) _ _ _)); (with_reducible refine o_or ?_); walk_at "op line")
  k_with "inplaceOp BitOr int int" => (k_here; (fail_if_success (with_reducible show wpAny _ _ (inplaceOp _ (Value.int (OfNat.ofNat _) _) (Value.int (OfNat.ofNat _) _)) _ _ _)); (with_reducible refine o_ior ?_); walk_at "op line")
  k_with "binaryOp RShift int int" => (k_here; (fail_if_success (with_reducible show wpAny _ _ (binaryOp _ (Value.int (OfNat.ofNat _) _) (Value.int (OfNat.ofNat _) _)) _ _ _)); (with_reducible refine o_rsh ?zq9kb1 ?_); (case zq9kb1 => l_bnd); walk_at "op line")
  k_with "inplaceOp RShift int int" => (k_here; (fail_if_success (with_reducible show wpAny _ _ (inplaceOp _ (Value.int (OfNat.ofNat _) _) (Value.int (OfNat.ofNat _) _)) _ _ _)); (with_reducible refine o_irsh ?zq9kb1 ?_); (case zq9kb1 => l_bnd); walk_at "op line")
  k_with "binaryOp LShift int int" => (k_here; (fail_if_success (with_reducible show wpAny _ _ (binaryOp _ (Value.int (OfNat.ofNat _) _) (Value.int (OfNat.ofNat _) _)) _ _ _)); (with_reducible refine o_lsh ?zq9kb1 ?zq9kb2 ?zq9kb3 ?_); (case zq9kb1 => l_bnd); (case zq9kb2 => l_bnd); (case zq9kb3 => l_bnd); walk_at "op line")
  k_with "pure enter" => (refine' code_pure ?zq9k1 ?zq9k2 ?zq9k3 ?zq9k5 ?zq9kA ?zq9kF ?zq9kK ?zq9k6 ?zq9k7 ?zq9k8 ?zq9k9 ?zq9kB ?_ ?zq9c2 ?zq9c3 ?zq9c4 ?zq9c5; (case zq9kA => exact rfl); (case zq9kF => exact rfl); (case zq9kK => assumption); (case zq9k1 => k_asm); (case zq9k2 => k_asm); (case zq9k3 => k_asm); (case zq9k5 => k_asm); (case zq9k6 => k_is); (case zq9k7 => k_is); (case zq9k8 => ktr_room); (case zq9k9 => exact BindsTo.of_eq rfl); (case zq9c5 => decide); (case zq9kB => exact locs rfl); (case zq9c2 => exact rfl); (case zq9c3 => exact rfl); (case zq9c4 => exact rfl); k_whole; intro L' h' F' N' B' X' T'; (try dsimp only); (try k_lift B'); (try k_fold))
  k_with "passes own line" => (with_reducible exact PySem.PassesOwn.leaving)
  k_with "kst facts1 line" => (first | with_reducible assumption | ((repeat (with_reducible refine IntsAre.cons _ _ ?_)); with_reducible exact IntsAre.nil) | exact IntsAre.append (by with_reducible assumption) (by with_reducible assumption) | exact IntsAre.append (by kst_facts1) (IntsAre.cons _ _ IntsAre.nil) | exact IntsAre.append (by kst_facts1) (IntsAre.cons _ _ (IntsAre.cons _ _ (IntsAre.cons _ _ IntsAre.nil))))
  k_with "sz" => ((try law_lens); (try simp only [List.size_toArray, Array.size_append, Array.size_push, Array.length_toList, List.length_append, List.length_cons, List.length_nil, List.length_reverse, List.length_map, PySem.sizeLine_eq] at *); omega)
  k_with "call builtin:list.reverse" => (k_here; (with_reducible show wpAny _ _ (call (Value.builtin _) [Value.ref _]) _ _ _); k_dflt (refine' kl_reverse ?zq9F ?zq9N ?zq9e ?zq9U ?zq9z ?_; (case zq9F => k_asm); (case zq9N => k_asm); (case zq9e => exact rfl); (case zq9U => k_upd); (case zq9z => walk_at "sz")); intro h' F' N'; (try k_sweep))
  k_with "all and" => ((repeat' (with_reducible apply And.intro)) <;> first | trivial | assumption | omega)
  k_with "exec While Compare cons nil" => (k_dflt (k_extra "while"))
  k_with "exec While BoolOp cons nil" => (k_dflt (k_extra "while"))
  k_with "exec While" => (k_dflt (k_extra "while"))
  k_with "use side" => ((case k1 => k_asm); (case k2 => k_asm); (case k3 => k_asm); (case k4 => k_asm); (case k5 => k_asm); (case kK => first | exact rfl | assumption); (case kd => ktr_room); (case ku => ktr_units))
  k_with "use new" => ((try simp only [AllNe, and_true] at l1); (try k_sweep); (try dsimp only); (try k_fold))
  k_with "is list" => first | exact trivial | assumption | exact News.isList (by k_asm) (by k_mem) | exact stays_list (Fr.keep (by k_asm)) (by assumption)
  k_with "call ref" => (k_dflt (k_extra "call"))
  k_with "exec Raise some none" => (k_dflt (exfalso; k_extra "raise"))
  k_with "for enter" => (ktd_said "for"; k_here; (rename Fr _ _ _ _ => lF'); (with_unfolding_all refine' For_invVF lF' ?zq9k1 ?zq9k2 ?_; (case zq9k1 => exact rfl); (case zq9k2 => exact rfl); k_whole))
  k_with "exec For Name Subscript cons nil" => (k_dflt (walk_at "for enter"))
  k_with "exec For Name Name cons nil" => (k_dflt (walk_at "for enter"))
  k_with "exec For Name Call cons nil" => (k_dflt (walk_at "for enter"))
  k_with "pyIter ref" => (k_dflt (k_extra "for"))
  k_with "exec Raise some none" => (k_dflt (k_extra "raise die"))
  k_with "turn enter" => (refine' code_turn ?zq9k1 ?zq9k2 ?zq9k3 ?zq9k5 ?zq9kD ?zq9kA ?zq9kF ?zq9kK ?zq9k6 ?zq9k7 ?zq9k8 ?zq9k9 ?zq9kB ?_ ?zq9c2 ?zq9c3 ?zq9c4 ?zq9c5; (case zq9kA => exact rfl); (case zq9kF => exact rfl); (case zq9kK => assumption); (case zq9k1 => k_asm); (case zq9k2 => k_asm); (case zq9k3 => k_asm); (case zq9k5 => k_asm); (case zq9kD => k_asm); (case zq9k6 => k_is); (case zq9k7 => k_is); (case zq9k8 => ktr_room); (case zq9k9 => exact BindsTo.of_eq rfl); (case zq9c5 => decide); (case zq9kB => exact locs rfl); (case zq9c2 => exact rfl); (case zq9c3 => exact rfl); (case zq9c4 => exact rfl); k_whole; intro L' h' F' N' B' X' T' D'; (try dsimp only); (try k_lift B'); (try k_fold))
  k_with "LeaveT" => (k_dflt (refine' leaveT_ ?zq9T9 ?zq9F9 ?_; (case zq9F9 => k_asm); (case zq9T9 => first | exact KtsTurn.refl | assumption)); intro tT; (try dsimp only))
  k_with "new pair" => (intro l' t' u' h' tk' F' N' l1; (try simp only [AllNe, and_true] at l1); (try k_sweep); (try dsimp only); (try k_fold))
  k_with "new ints" => (intro l' vs' n' h' tk' F' N' l1 hI'; (try simp only [AllNe, and_true] at l1); (try k_sweep); (try dsimp only); (try k_fold))
  k_with "grow turn" => (intro gVs gNs gK gPre gT gU gH gTk gI gIt gLt gCls l1 gIs gP gF gN; (try k_lt l1); have kM := kstMark; (try k_fold))
  k_with "grow done" => (intro gVs gNs gK gU gH gTk gI gP gF gN; have kM := kstMark; (try k_fold))
  k_with "eval Call" => (ktd_said "call"; k_here; k_dflt (refine Call_ ?_))
  k_with "new int" => (intro u' h' tk' F' N'; (try k_sweep); (try dsimp only); (try k_fold))
  k_with "eval BinOp" => (k_dflt (k_extra "fact"))
  k_with "new bool" => (intro h' tk' F' N'; (try k_sweep); (try dsimp only); (try k_fold))
  k_with "call builtin:list.extend" => (k_here; (with_reducible show wpAny _ _ (call (Value.builtin _) [Value.ref _, Value.ref _]) _ _ _); k_dflt (refine' my_extend ?zq9F ?zq9N ?zq9b ?zq9U ?zq9ne ?zq9z ?_; (case zq9F => k_asm); (case zq9N => k_asm); (case zq9b => k_mem); (case zq9U => k_upd); (case zq9ne => walk_at "sz"); (case zq9z => walk_at "sz")); intro h' F' N'; (try k_sweep))
  k_with "op line" => (intro opX opE; (try simp only [bitAnd_m1, bitAnd_m4, bitAnd_m6, bitAnd_m7, bitAnd_m8, Int.reduceToNat, Int.reducePow] at opE); (try k_dflt (k_extra "op")))
  k_with "call builtin:min" => ((with_reducible show wpAny _ _ (call (Value.builtin _) [Value.int _ _, Value.int _ _]) _ _ _); ktd_said "min"; (with_reducible rename News _ _ _ _ => N'); (with_unfolding_all apply min_two_N); (case hh => with_unfolding_all rfl); (case N => exact N'); (case F => assumption); clear N'; intro _ _ _ _; k_dflt (k_extra "min"))
  k_with "kmk size line" => ((refine kmk_sz (by l_ints) ?_; rw [PySem.sizeLine_eq]; omega))
  k_with "InvEndN" => (k_dflt kst_close)
  k_with "ite" => (k_here; k_closed; k_dflt (first | refine ite_pos (by decide) ?_ | refine ite_neg (by decide) ?_))
  k_with "sz" => ((simp only [List.size_toArray, Array.size_append, Array.size_push, Array.length_toList, List.length_append, List.length_cons, List.length_nil, List.length_reverse, List.length_map, PySem.sizeLine_eq]); first | omega | (law_lens; omega))
  k_with "kmk nums line" => (first | ((with_reducible refine' kmk_run ?zq9ka ?zq9kb ?zq9kc); (case zq9ka => l_ints); (case zq9kb => kmk_sign); (case zq9kc => kmk_sign)) | ((with_reducible refine' kmk_from ?zq9ka ?zq9kb); (case zq9ka => l_ints); (case zq9kb => kmk_sign)) | ((with_reducible refine' kmk_upto ?zq9ka ?zq9kb); (case zq9ka => l_ints); (case zq9kb => kmk_sign)) | ((with_reducible refine' kmk_upto_neg ?zq9ka ?zq9kb); (case zq9ka => l_ints); (case zq9kb => kmk_sign)))
  k_with "k ne line" => ((refine neN ?_; (try dsimp only); with_reducible first | assumption | exact Ne.symm (by assumption) | exact Nat.ne_of_lt (by assumption) | exact Nat.ne_of_gt (by assumption)))
  k_with "x close line" => ((rename DieRet _ _ => hr9); (rename Mem _ _ _ _ => hD9); refine' die_use hr9 hD9 ⟨_, _, ?zq9hm⟩; (case zq9hm => (repeat (first | exact List.Mem.head _ | refine List.Mem.tail _ ?_))))
  k_with "execs cons" => ((with_reducible refine Mine.execs_seq ?_); intro qk)
  k_with "mut enter" => (refine' code_mut ?zq9k1 ?zq9k2 ?zq9k3 ?zq9k5 ?zq9kN ?zq9kA ?zq9kF ?zq9kK ?zq9k6 ?zq9k7 ?zq9k8 ?zq9k9 ?zq9kB ?_ ?zq9c2 ?zq9c3 ?zq9c4 ?zq9c5; (case zq9kA => exact rfl); (case zq9kF => exact rfl); (case zq9kK => assumption); (case zq9k1 => k_asm); (case zq9k2 => k_asm); (case zq9k3 => k_asm); (case zq9k5 => k_asm); (case zq9kN => assumption); (case zq9k6 => k_is); (case zq9k7 => k_is); (case zq9k8 => ktr_room); (case zq9k9 => exact BindsTo.of_eq rfl); (case zq9c5 => decide); (case zq9kB => exact locs rfl); (case zq9c2 => exact rfl); (case zq9c3 => exact rfl); (case zq9c4 => exact rfl); k_whole; intro g' L' h' hG9 F' N' B' X' T' l1; (try k_lt l1); (try dsimp only); (try k_lift B'); (try k_fold))
  k_with "binaryOp Pow int int" => first | (with_reducible refine o_pow (b := 21) (by decide) (by decide) (by decide) 2097152 (by decide) ?_) | (with_reducible refine o_pow (b := 26) (by decide) (by decide) (by decide) 67108864 (by decide) ?_) | (with_reducible refine o_pow (b := 31) (by decide) (by decide) (by decide) 2147483648 (by decide) ?_)
  k_with "new mill" => (intro x' u' h' tk' t9' n9' h0x' h1x' F' N9; (have N' := N9 _ (by k_upd)); clear N9; (try k_sweep); (try dsimp only); (try k_fold))
  k_with "new bounds" => (intro l' h' tk' _ _ _ _ _ _ _ _ F' N' l1; (try simp only [AllNe, and_true] at l1); (try k_sweep); (try dsimp only); (try k_fold))
  k_with "new row" => (intro p' t' l' vs' n' h' tk' F' N' l1 l2 hI'; (try simp only [AllNe, and_true] at l1 l2); (try k_sweep); (try dsimp only); (try k_fold))
  k_with "call builtin:str.join" => (k_dflt (k_extra "join"))
  k_with "newList" => (k_here; (with_reducible rename PyProof.Rows.CarriedAll _ (List.map PyData.int (List.filter _ _)) => cC9); (with_reducible rename Heap.IsList _ _ _ => iL9); k_dflt (refine' newList_K3 ?zq9k1 ?zq9k2 iL9 ?_; (case zq9k1 => k_asm); (case zq9k2 => k_asm); k_whole); clear iL9; intro l' h' F' N' l1 iL8; (try k_lt l1); (try k_sweep))
  k_with "compareOp NotEq ref ref" => (k_dflt (k_extra "ne"))
  k_with "binaryOp FloorDiv int int" => (k_dflt (k_extra "fdiv"))
  k_with "CompRest" => (with_unfolding_all (refine LCg.CompRest.succ ?_; intro v' I' oI' C' oC' D' m' h' tk' E' hv' hC' hx' F' N' off' ne'; (first | lcg_open hv' | (obtain ⟨t9', hv9'⟩ := hv'; subst hv9')); (try simp only [LCg.Off3, and_true] at off'); (have := ne'.1; have := ne'.2.1; have := ne'.2.2); (repeat (have := off'.1.1; have := off'.1.2.1; have := off'.1.2.2; replace off' := off'.2)); (try (have := off'.1; have := off'.2.1; have := off'.2.2))))
  k_with "new ints" => (intro l' vs' n' h' tk' F' N' l1 hI'; (try simp only [AllNe, and_true] at l1); (repeat (have := l1.1; replace l1 := l1.2)); (try k_sweep); (try dsimp only); (try k_fold))
  k_with "rows turn" => (intro gVs gNs gK gPre gQ gWs gNq gN gU gH gTk gOwn gLt gNth gMem gI gLen gNe gOff gIs gAcc gGl gF gNw; (try simp only [List.cons_append, List.nil_append] at gNw); have kM := kstMark; (try k_fold))
  k_with "rows done" => (intro gVs gNs gK gU gH gTk gIs gAcc gF gNw; (have gE := gAcc.done); subst gE; clear gAcc; have kM := kstMark; (try k_fold))
  k_with "still turn" => (intro sK sPre sT sU sH sTk sOwn sLo sHi sOff sF sN; (try simp only [List.cons_append, List.nil_append] at sN); have kM := kstMark; (try k_fold))
  k_with "still done" => (intro sU sH sTk sF sN; have kM := kstMark; (try k_fold))
  k_with "subscriptTail Name Name ref int" => (k_dflt (k_extra "item"))
  k_with "item done" => (intro iR iWs iN iNews iI; (try k_fold))
  k_with "compareOp Lt ref ref" => (k_dflt (k_extra "lt"))
  k_with "eval ListComp" => (k_dflt (k_extra "comp"))
  k_with "memR" => with_reducible first | exact List.mem_cons_self | (refine List.mem_cons_of_mem _ ?_; walk_at "memR")
  k_with "rows are" => (refine RowsAre.cons (by walk_at "memR") (by with_reducible assumption) ?_; refine RowsAre.cons (by walk_at "memR") (by with_reducible assumption) ?_; refine RowsAre.cons (by walk_at "memR") (by with_reducible assumption) ?_; refine RowsAre.cons (by walk_at "memR") (by with_reducible assumption) ?_; exact RowsAre.nil)
  k_with "sub" => ((repeat ((with_reducible refine List.forall_mem_cons.mpr (And.intro ?_ ?_)); (next => walk_at "memR"))); first | with_reducible exact List.forall_mem_nil _ | walk_at "sub rest")
  k_with "sub" => ((repeat (with_reducible (fail_if_success exact Mine.sub_same); refine Mine.sub_more ?_)); with_reducible exact Mine.sub_same)
  k_with "sub rest" => (intro p hp; (repeat (with_reducible refine List.mem_cons_of_mem _ ?_)); first | with_reducible exact hp | with_reducible exact List.mem_append_left _ hp)
  k_with "own" => (intro p hp; (repeat (with_reducible refine List.mem_cons_of_mem _ ?_)); first | with_reducible exact hp | with_reducible exact List.mem_append_right _ hp)
  k_with "same" => (intro z h2 h3; first | ((simp only [List.contains_cons, List.contains_nil, Bool.or_false, Bool.or_eq_false_iff, beq_eq_false_iff_ne, ne_eq] at h3); (simp only [h2, h3, if_false, List.contains_cons, List.contains_nil, Bool.or_false, beq_iff_eq, Bool.false_eq_true]; done)) | rfl)
  k_with "InvEndN" => ((with_reducible show InvEndN _ _ (KstS (fun _ : Unit => _) _ _ _ _ _ _ _) _ _ _ _); k_dflt (refine still_end (by k_asm) (by k_asm) (by walk_at "sub") (by walk_at "own") (by walk_at "same")))
  k_with "slice init" => (k_here; k_dflt (refine' slice_init ?zq9F ?zq9N ?zq9l ?zq9i ?zq9y ?zq9z ?_ ?zq9s ?zq9t; (case zq9F => k_asm); (case zq9N => k_asm); (case zq9l => kmk_list); (case zq9i => l_ints); (case zq9y => decide); (case zq9z => omega); (case zq9s => with_unfolding_all rfl); (case zq9t => kmk_pure)); intro D' ws' h' F' N' l1 hI'; (try simp only [Int.reduceNeg, Int.neg_neg, Int.reduceToNat] at hI'); (try k_lt l1); (try k_sweep))
  k_with "subscriptTail Subscript Name Name Slice ref ref" => (walk_at "last subscriptTail"; walk_at "slice init")
  k_with "subscriptTail Subscript Name Name UnaryOp ref int" => (walk_at "last subscriptTail"; k_here; (with_unfolding_all refine' item_list_ints_neg ?zq9k1 ?zq9k2 ?zq9k3 ?zq9k4 ?zq9k5 ?_; (case zq9k1 => is_list); (case zq9k2 => l_ints); (case zq9k3 => omega); (case zq9k4 => omega); (case zq9k5 => omega); k_whole); intro _)
  k_with "call type:range" => (k_here; (simp only [Nat.reduceAdd, Int.cast_ofNat_Int]); walk_at "call type:range")
  k_with "turn enter C" => (refine' code_turnC ?zq9k1 ?zq9k2 ?zq9k3 ?zq9k5 ?zq9kDd ?zq9kA ?zq9kF ?zq9kK ?zq9k6 ?zq9k7 ?zq9k8 ?zq9k9 ?zq9kB ?zq9kD ?_ ?zq9c2 ?zq9c3 ?zq9c4; (case zq9kA => exact rfl); (case zq9kF => exact rfl); (case zq9kK => assumption); (case zq9k1 => k_asm); (case zq9k2 => k_asm); (case zq9k3 => k_asm); (case zq9k5 => k_asm); (case zq9kDd => k_asm); (case zq9k6 => k_is); (case zq9k7 => k_is); (case zq9k8 => ktr_room); (case zq9k9 => exact BindsTo.of_eq rfl); (case zq9kB => exact rfl); (case zq9kD => decide +kernel); (case zq9c2 => exact rfl); (case zq9c3 => exact rfl); (case zq9c4 => exact rfl); k_whole; intro L' h' tk' cells' F' N' Y' B' X' T' D'; k_cells Y'; (try simp only [List.cons_append, List.nil_append] at N'); (try dsimp only); (try k_lift B'); (try k_fold))
  k_with "exec For Name Call cons nil" => (ktd_said "for"; k_here; (with_unfolding_all refine' For_cellE ?zq9k1 ?_; (case zq9k1 => exact rfl); k_whole))
  k_with "cell turn" => (intro sK sT sU sH sTk sOwn sO sLo sHi sD sOff sF sN; (try dsimp only at sN); (try simp only [List.cons_append, List.nil_append] at sN); have kM := kstMark; (try k_fold))
  k_with "cell done" => (intro sU sH sTk sO sV sD sF sN; (try dsimp only at sN); have kM := kstMark; (try k_fold))
  k_with "same c" => (intro z h3; first | ((simp only [List.contains_cons, List.contains_nil, Bool.or_false, Bool.or_eq_false_iff, beq_eq_false_iff_ne, ne_eq] at h3); (simp only [h3, if_false, List.contains_cons, List.contains_nil, Bool.or_false, beq_iff_eq, Bool.false_eq_true]; done)) | rfl)
  k_with "InvEndN" => ((with_reducible show InvEndN _ _ (CellF _ _ _) _ _ _ _); k_dflt (refine cellF_end (by k_asm) (by k_asm) (by (try dsimp only); walk_at "sub") (by assumption) (by walk_at "own") (by rfl) (by walk_at "same c")))
  k_with "exec Assign cons ListComp" => (k_dflt (k_extra "comp assign"))
  k_with "TupSrc" => (k_dflt (k_extra "tup src"))
  k_with "TestEnd" => (k_dflt (exact TestEnd.intro rfl))
  k_with "NoneSrc" => (k_dflt (k_extra "none src"))
  k_with "NoneEnd" => (k_dflt (k_extra "none end"))
  k_with "new turn" => (intro g' h' tk' T' F' N' B' X' P' D'; (try k_sweep); (try dsimp only); (try k_fold))
  k_with "new bounds" => (intro l' h' tk' _ _ _ _ _ _ _ _ F' N' l1; (try simp only [AllNe, and_true] at l1); (try k_sweep); (try dsimp only); (try k_fold))
  k_with "none turn" => (intro g' i' t' I' oI' C' oC' D' m' h' tk' E' hi' G' hC' hx' off' ne'; obtain ⟨T', F', N', B', X', P', Dd'⟩ := G')
  k_with "none done" => (intro g' D' h' tk' G' o1'; obtain ⟨T', F', N', B', X', P', Dd'⟩ := G'; (try simp only [LCg.Off1, and_true] at o1'); (rename Heap.IsList _ _ _ => iL9); (have iL8 := turn_list T' iL9); clear iL9; (try k_fold))
  k_with "x close int" => ((rename IntRet _ _ _ => hr9); exact hr9.ret _ _)
  k_with "int text" => (k_here; (first | refine' int_2_0000 ?zq9kd ?zq9ku ⟨fun u' tk' => ?_⟩ | refine' int_2_1000 ?zq9kd ?zq9ku ⟨fun u' tk' => ?_⟩ | refine' int_2_1011 ?zq9kd ?zq9ku ⟨fun u' tk' => ?_⟩ | refine' int_2_0110 ?zq9kd ?zq9ku ⟨fun u' tk' => ?_⟩ | refine' int_2_1010 ?zq9kd ?zq9ku ⟨fun u' tk' => ?_⟩ | refine' int_2_0010 ?zq9kd ?zq9ku ⟨fun u' tk' => ?_⟩ | refine' int_16_0 ?zq9kd ?zq9ku ⟨fun u' tk' => ?_⟩ | refine' int_16_8 ?zq9kd ?zq9ku ⟨fun u' tk' => ?_⟩ | refine' int_16_b ?zq9kd ?zq9ku ⟨fun u' tk' => ?_⟩ | refine' int_16_6 ?zq9kd ?zq9ku ⟨fun u' tk' => ?_⟩ | refine' int_16_a ?zq9kd ?zq9ku ⟨fun u' tk' => ?_⟩ | refine' int_16_2 ?zq9kd ?zq9ku ⟨fun u' tk' => ?_⟩); (case zq9kd => ktr_room); (case zq9ku => ktr_units))
  k_with "CompSrc" => (k_dflt (k_extra "comp src"))
  k_with "subscriptTail Name Slice ref ref" => (k_dflt (k_extra "slice"))
  k_with "eval ListComp" => (k_dflt (k_extra "comp"))
  k_with "SignSrc" => (k_dflt (k_extra "signs src"))
  k_with "EltEnd" => (k_dflt (exact EltEnd.intro (by rfl)))
  k_with "call type:int" => (k_dflt (k_extra "int"))
  k_with "CompEnd" => (k_dflt (refine LCg.CompEnd.intro (by with_reducible assumption) (by with_reducible assumption) _ (fun p hp => hp) (by with_reducible assumption) trivial ?_))
  k_with "RngElt" => (k_dflt (exact ⟨⟨_, rfl⟩, rfl⟩))
  k_with "new text" => (intro u' h' tk' F' N'; (try k_sweep); (try dsimp only); (try k_fold))
  k_with "signs" => ((case uh => rfl); (case uF => k_asm); (case uN => k_asm); (case ua => first | exact (all_ascii (by assumption)).1 | exact (all_ascii (by assumption)).2); (case uz => first | (show (bitsS _).length ≤ 1000000; omega) | (show (figsS _).length ≤ 1000000; omega)); rotate_left; (intro bD bYs bH bTk bF bNw bO1 bI); rotate_right; (intro bC9 bT bI boI bC boC bD bM bYs bH bTk bE bMem bN bX bF bNw bOff bNe))
  (k_with "comp assign" => (k_here; lcg_look; (refine LCg.Assign_ListComp_U (F₀ := by k_asm) (by rfl) (by with_unfolding_all rfl) (by with_unfolding_all rfl) (by decide) (by rfl) (by decide) (by rfl) (by rfl) (by rfl) ?_)))
  (k_with "comp" => first
    | (k_here; lcg_look; (with_reducible show wpAny _ _ (eval (PySem.Expr.ListComp (PySem.Expr.Call _ [_] _ _) [⟨_, PySem.Expr.Name _ _, _, _⟩] _ _) _) _ _ _); ((refine' ListComp_signs ordVal ?vkF ?vc1 ?vc2 ?vc3 ?vc4 ?vc5 ?_ ?vc6); (case vkF => k_asm); (case vc1 => with_unfolding_all rfl); (case vc2 => decide); (case vc3 => exact rfl); (case vc4 => decide); (case vc5 => exact rfl); (case vc6 => (intro _; rfl))))
    | (k_here; lcg_look; (with_reducible show wpAny _ _ (eval (PySem.Expr.ListComp (PySem.Expr.Call _ [_, _] _ _) [⟨_, PySem.Expr.Name _ _, _, _⟩] _ _) _) _ _ _); ((refine' ListComp_signs hexVal ?vkF ?vc1 ?vc2 ?vc3 ?vc4 ?vc5 ?_ ?vc6); (case vkF => k_asm); (case vc1 => with_unfolding_all rfl); (case vc2 => decide); (case vc3 => exact rfl); (case vc4 => decide); (case vc5 => exact rfl); (case vc6 => (intro _; rfl))))
    | (k_here; lcg_look; (with_reducible show wpAny _ _ (eval (PySem.Expr.ListComp (PySem.Expr.Call _ [_, _] _ _) [⟨_, PySem.Expr.Call _ _ _ _, _, _⟩] _ _) _) _ _ _); ((refine LCg.ListComp_U (F₀ := by k_asm) (by rfl) (by decide) (by rfl) (by decide) (by rfl) ?_); lcg_toSrc)))
  (k_with "signs src" => (first
    | ((refine' SignSrc.intro (g := hexVal) (figsS n9) _ ?uh ?uF ?uN ?ua ?uz ?un ?_ ?_); (case un => exact (figs_eq hn9).symm); walk_at "signs")
    | ((refine' SignSrc.intro (g := ordVal) (bitsS n9) _ ?uh ?uF ?uN ?ua ?uz ?un ?_ ?_); (case un => exact rfl); walk_at "signs")
    | ((refine' SignSrc.intro (g := ordVal) (figsS n9) _ ?uh ?uF ?uN ?ua ?uz ?un ?_ ?_); (case un => exact rfl); walk_at "signs")))
  (k_with "int" => (first
    | ((refine' int_nib hn9 ?zi ?zz ?zx ?zy ?zd ?zu (fun u' tk' => ?_)); (case zi => assumption); (case zz => (first | exact Int.zero_add _ | rfl)); (case zx => first | assumption | rfl | omega); (case zy => first | assumption | rfl | omega); (case zd => ktr_room); (case zu => ktr_units); (try dsimp only))
    | ((refine' int_hex (n := n9) ?zi ?zd ?zu (fun u' tk' => ?_)); (case zi => assumption); (case zd => ktr_room); (case zu => ktr_units); (try dsimp only))))
  (k_with "comp src" => (first
    | ((refine' comp_range (n := 2 * n9) figV ?qh ?qF ?qN ?qr ?qb ?qz ?_ ?_); (case qh => rfl); (case qF => k_asm); (case qN => k_asm); (case qr => assumption); (case qb => omega); (case qz => omega); rotate_left; (intro bG bYs bI; skip); rotate_right; (intro bG bK bT bI boI bC boC bD bM bYs bH bTk bE bLt bN bX bF bNw bOff bNe; skip))
    | refine LCg.CompSrc.range (by rfl) (by k_asm) (by k_asm) (by assumption) (by first | decide | rfl) (by first | rfl | decide) (by exact Nat.le_of_ble_eq_true rfl) ?_; intro gC9; lcg_lit))
  (k_with "call" => ((first
    | ((refine' use_turn0 (codesRight_c _ _ _ _ _ _ _ _ _ _ ?xg0 ?xg1 ?xg2 ?xg3) ?k1 ?k2 ?k3 ?k4 ?k5 ?kXB ?kTB ?kK ?kd ?ku ?kp ?_); walk_at "use side"; (case kXB => k_asm); (case kTB => k_asm); (case kp => walk_at "is list"); (case xg0 => omega); (case xg1 => omega); (case xg2 => omega); (case xg3 => omega); intro h' tk' F' N'; (try k_sweep); (try dsimp only); (try k_fold))
    | ((refine' use_bool (groupsRight_c _ _ _ _ _ _ _ _ _ _ _ _ ?xg0 ?xg1 ?xg2 ?xg3 ?xh0 ?xh1) ?k1 ?k2 ?k3 ?k4 ?k5 ?kK ?kd ?ku ?kp ?_); walk_at "use side"; (case kp => walk_at "is list"); (case xg0 => omega); (case xg1 => omega); (case xg2 => omega); (case xg3 => omega); (case xh0 => omega); (case xh1 => omega); walk_at "new bool")
    | ((rename IntsAre _ (List.map _ (rangeKs _ _)) => hI8); (refine' use_bool (linesRight_c _ _ _ _ _ _ hI8 ?xl ?xb ?xc ?xc2) ?k1 ?k2 ?k3 ?k4 ?k5 ?kK ?kd ?ku ?kp ?_); walk_at "use side"; (case kp => walk_at "is list"); (case xl => (rw [List.length_map, rangeKs_length]; omega)); (case xb => (intro z9 hz9; (obtain ⟨k9, _, rfl⟩ := List.mem_map.mp hz9); exact oct_bound _)); (case xc => omega); (case xc2 => omega); walk_at "new bool")
    | ((rename IntsAre _ (List.map ordVal _) => hI8); (first | refine' use_ints (rowBits_n hn9 _ _ _ _ _ hI8 ?xc) ?k1 ?k2 ?k3 ?k4 ?k5 ?kK ?kd ?ku ?kp ?_ | refine' use_ints (rowFigs_n hn9 _ _ _ _ _ hI8 ?xc) ?k1 ?k2 ?k3 ?k4 ?k5 ?kK ?kd ?ku ?kp ?_); walk_at "use side"; (case kp => walk_at "is list"); (case xc => omega); walk_at "new ints")
    | ((rename IntsAre _ (octsN _) => hI8); (first | refine' use_text (bits_n hn9 _ _ _ _ _ hI8 ?xc) ?k1 ?k2 ?k3 ?k4 ?k5 ?kK ?kd ?ku ?kp ?_ | refine' use_text (figs_n hn9 _ _ _ _ _ hI8 ?xc) ?k1 ?k2 ?k3 ?k4 ?k5 ?kK ?kd ?ku ?kp ?_); walk_at "use side"; (case kp => walk_at "is list"); (case xc => omega); walk_at "new text")
    | ((rename IntsAre _ (List.take _ _) => hI9); first
      | ((refine' use_mill (number_c _ _ _ _ _ _ _ _ hI9 ?xl ?xk ?xk2) ?k1 ?k2 ?k3 ?k4 ?km ?k5 ?kK ?kd ?ku ?kp ?_); walk_at "use side"; (case km => k_mem); (case xl => (rw [List.length_take]; omega)); (case xk => omega); (case xk2 => omega); (case kp => exact isList_hide (News.isList (by k_asm) (by k_mem)) (by k_ne)); walk_at "new mill")
      | ((refine' use_mill (crank_c _ _ _ _ _ _ _ _ _ _ hI9 ?xl ?xk ?xk2 ?xk3 ?xk4) ?k1 ?k2 ?k3 ?k4 ?km ?k5 ?kK ?kd ?ku ?kp ?_); walk_at "use side"; (case km => k_mem); (case xl => (rw [List.length_take]; omega)); (case xk => omega); (case xk2 => omega); (case xk3 => omega); (case xk4 => omega); (case kp => exact isList_hide (News.isList (by k_asm) (by k_mem)) (by k_ne)); walk_at "new mill")))))
  (k_with "slice" => (((rename IntsAre _ (List.map _ (rangeKs _ _)) => hI8); (refine' slice_upto ?sF ?sN ?sl hI8 ?sy ?sz ?_ ?ss ?st); (case sF => k_asm); (case sN => k_asm); (case sl => kmk_list); (case sy => decide); (case sz => (rw [List.length_map, rangeKs_length]; omega)); (case ss => with_unfolding_all rfl); (case st => kmk_pure); intro hdD hdW hdH hdF hdN hdL hdI; (try k_lt hdL); (try k_sweep); (have hdN2 := news_drop hdN); clear hdN; (obtain ⟨hdM, hdF2⟩ := fr_any hdF); clear hdF; (repeat (with_reducible rename IsRange _ _ _ _ _ _ _ _ => hz9; clear hz9)); (repeat (with_reducible rename LCg.NsObj _ _ => hz9; clear hz9)); (repeat (with_reducible rename @Ne Nat _ _ => hz9; clear hz9)); (repeat (with_reducible rename @Ne Addr _ _ => hz9; clear hz9)); (repeat (with_reducible rename ∀ (b : Addr) (o : Obj), _ => hz9; clear hz9)); (try clear hI8); (have hdK1 := Kp.mk hdF2); clear hdF2; (have hdK2 := Kp.mk hdN2); clear hdN2; (repeat (with_reducible rename Fr _ _ _ _ => hz9; clear hz9)); (repeat (with_reducible rename News _ _ _ _ => hz9; clear hz9)); (have hdF3 := hdK1.out); clear hdK1; (have hdN3 := hdK2.out); clear hdK2; (rename _ = Data.cell (bindC _ _ _ _) => d9; have c9 := cell_val (y := none) d9 (by kernel_rfl); clear d9); (rename _ = Data.cell (bindC _ _ _ _) => d8; have c8 := cell_val (y := none) d8 (by kernel_rfl); clear d8); (obtain ⟨n9, hn9, hdJ⟩ := head_n hdI); clear hdI; (have hol := octsN_len hn9); (have hwl := hdJ.length); (have hbl := bitsS_len hn9); (have hfl := figsS_len hn9); skip)))
  w_strict (k_go0; (all_goals try k_fold); (repeat' (first | ((with_reducible first | refine Mine.seq_nil ?_ | refine Mine.seq_next ?_ | refine Mine.seq_ret ?_); (try dsimp only)) | (k_unfold; (try dsimp only)) | (k_end; kc_close) | walk1 | (dsimp only; walk1) | (leave1; walk_say "STEP leave1"; try dsimp only) | fail "no step")))
end Mine
theorem PySem.Challenge.cw_tk0063_01_holds : PySem.Challenge.rw_tk0063_01.Holds := by
  exact Mine.law_c
