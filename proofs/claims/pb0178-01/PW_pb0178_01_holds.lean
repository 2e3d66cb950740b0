import PyProof.Rows.All
import OpenK.AllK
import Wide.All
import Wide.FinOn
import KE.KSuper
import PySem.Challenge.RW_pb0178_01
set_option Elab.async false
set_option linter.all false
set_option rowWalk.seconds 0
set_option compiler.extract_closed false
section
open PySem PySem.W PySem.W.X PyProof.Rows
namespace Mine
set_option maxRecDepth 100000 in
noncomputable def hd.view_39 : Program := PySem.W.view PySem.Challenge.pw_pb0178_01 [0, 2, 3, 4, 6, 7, 8, 9, 11, 12, 13, 14, 15, 16, 17, 18, 19, 20, 21, 22, 23, 24, 25, 26, 27, 29, 30, 31, 32, 33, 34]
noncomputable abbrev pS (i : Nat) : Stmt := PySem.Challenge.pw_pb0178_01.main.body.getD i (.Pass ⟨0, 0, 0, 0⟩)
noncomputable abbrev pM (i j : Nat) : Stmt := match pS i with
  | .ClassDef _ _ _ b .. => b.getD j (.Pass ⟨0, 0, 0, 0⟩)
  | _ => .Pass ⟨0, 0, 0, 0⟩
noncomputable abbrev fnD {s : Stmt} {nm : PySem.Str} {ps : Arguments} {b : List Stmt} {dl : List PySem.Expr} {rt : Option PySem.Expr} {tp : List TypeParam} {sc : Scope} {ts : Option Scope} {bd : PySem.Str} {pp : Pos}
    (_ : s = .FunctionDef nm ps b dl rt tp sc ts bd pp) (qn : PySem.Str) (g : Addr) (cl : List (PySem.Str × Addr)) (d kd doc mo : Value) (an : Option Addr) (co ct : Value) (bu : Addr) : FuncData :=
  FuncData.mk nm qn ps (.stmts b) sc g cl d kd doc mo an co ct bu
set_option maxRecDepth 100000 in
set_option maxHeartbeats 8000000 in
noncomputable def hd.heap_39 : Params → Frag := fun P0 => ((nat_lit 0,Obj.mk (Value.type "dict") Option.none (Data.dict (List.toArray ((DictEntry.mk (PyData.keyHash P0 (Str.ofString "__name__")) (Value.str (Str.ofString "__name__") 1) (Value.str (Str.ofString "builtins") 160)) :: (DictEntry.mk (PyData.keyHash P0 (Str.ofString "__doc__")) (Value.str (Str.ofString "__doc__") 2) (Value.builtin "builtins.__doc__:str#opaque")) :: (DictEntry.mk (PyData.keyHash P0 (Str.ofString "__package__")) (Value.str (Str.ofString "__package__") 3) (Value.builtin "builtins.__package__:str#opaque")) :: (DictEntry.mk (PyData.keyHash P0 (Str.ofString "__loader__")) (Value.str (Str.ofString "__loader__") 4) (Value.builtin "builtins.__loader__:shared#opaque")) :: (DictEntry.mk (PyData.keyHash P0 (Str.ofString "__spec__")) (Value.str (Str.ofString "__spec__") 5) (Value.builtin "builtins.__spec__#opaque")) :: (DictEntry.mk (PyData.keyHash P0 (Str.ofString "__build_class__")) (Value.str (Str.ofString "__build_class__") 6) (Value.builtin "__build_class__")) :: (DictEntry.mk (PyData.keyHash P0 (Str.ofString "__import__")) (Value.str (Str.ofString "__import__") 7) (Value.builtin "__import__")) :: (DictEntry.mk (PyData.keyHash P0 (Str.ofString "abs")) (Value.str (Str.ofString "abs") 8) (Value.builtin "abs")) :: (DictEntry.mk (PyData.keyHash P0 (Str.ofString "all")) (Value.str (Str.ofString "all") 9) (Value.builtin "all")) :: (DictEntry.mk (PyData.keyHash P0 (Str.ofString "any")) (Value.str (Str.ofString "any") 10) (Value.builtin "any")) :: (DictEntry.mk (PyData.keyHash P0 (Str.ofString "ascii")) (Value.str (Str.ofString "ascii") 11) (Value.builtin "ascii")) :: (DictEntry.mk (PyData.keyHash P0 (Str.ofString "bin")) (Value.str (Str.ofString "bin") 12) (Value.builtin "bin")) :: (DictEntry.mk (PyData.keyHash P0 (Str.ofString "breakpoint")) (Value.str (Str.ofString "breakpoint") 13) (Value.builtin "breakpoint")) :: (DictEntry.mk (PyData.keyHash P0 (Str.ofString "callable")) (Value.str (Str.ofString "callable") 14) (Value.builtin "callable")) :: (DictEntry.mk (PyData.keyHash P0 (Str.ofString "chr")) (Value.str (Str.ofString "chr") 15) (Value.builtin "chr")) :: (DictEntry.mk (PyData.keyHash P0 (Str.ofString "compile")) (Value.str (Str.ofString "compile") 16) (Value.builtin "compile")) :: (DictEntry.mk (PyData.keyHash P0 (Str.ofString "delattr")) (Value.str (Str.ofString "delattr") 17) (Value.builtin "delattr")) :: (DictEntry.mk (PyData.keyHash P0 (Str.ofString "dir")) (Value.str (Str.ofString "dir") 18) (Value.builtin "dir")) :: (DictEntry.mk (PyData.keyHash P0 (Str.ofString "divmod")) (Value.str (Str.ofString "divmod") 19) (Value.builtin "divmod")) :: (DictEntry.mk (PyData.keyHash P0 (Str.ofString "eval")) (Value.str (Str.ofString "eval") 20) (Value.builtin "eval")) :: (DictEntry.mk (PyData.keyHash P0 (Str.ofString "exec")) (Value.str (Str.ofString "exec") 21) (Value.builtin "exec")) :: (DictEntry.mk (PyData.keyHash P0 (Str.ofString "format")) (Value.str (Str.ofString "format") 22) (Value.builtin "format")) :: (DictEntry.mk (PyData.keyHash P0 (Str.ofString "getattr")) (Value.str (Str.ofString "getattr") 23) (Value.builtin "getattr")) :: (DictEntry.mk (PyData.keyHash P0 (Str.ofString "globals")) (Value.str (Str.ofString "globals") 24) (Value.builtin "globals")) :: (DictEntry.mk (PyData.keyHash P0 (Str.ofString "hasattr")) (Value.str (Str.ofString "hasattr") 25) (Value.builtin "hasattr")) :: (DictEntry.mk (PyData.keyHash P0 (Str.ofString "hash")) (Value.str (Str.ofString "hash") 26) (Value.builtin "hash")) :: (DictEntry.mk (PyData.keyHash P0 (Str.ofString "hex")) (Value.str (Str.ofString "hex") 27) (Value.builtin "hex")) :: (DictEntry.mk (PyData.keyHash P0 (Str.ofString "id")) (Value.str (Str.ofString "id") 28) (Value.builtin "id")) :: (DictEntry.mk (PyData.keyHash P0 (Str.ofString "input")) (Value.str (Str.ofString "input") 29) (Value.builtin "input")) :: (DictEntry.mk (PyData.keyHash P0 (Str.ofString "isinstance")) (Value.str (Str.ofString "isinstance") 30) (Value.builtin "isinstance")) :: (DictEntry.mk (PyData.keyHash P0 (Str.ofString "issubclass")) (Value.str (Str.ofString "issubclass") 31) (Value.builtin "issubclass")) :: (DictEntry.mk (PyData.keyHash P0 (Str.ofString "iter")) (Value.str (Str.ofString "iter") 32) (Value.builtin "iter")) :: (DictEntry.mk (PyData.keyHash P0 (Str.ofString "aiter")) (Value.str (Str.ofString "aiter") 33) (Value.builtin "aiter")) :: (DictEntry.mk (PyData.keyHash P0 (Str.ofString "len")) (Value.str (Str.ofString "len") 34) (Value.builtin "len")) :: (DictEntry.mk (PyData.keyHash P0 (Str.ofString "locals")) (Value.str (Str.ofString "locals") 35) (Value.builtin "locals")) :: (DictEntry.mk (PyData.keyHash P0 (Str.ofString "max")) (Value.str (Str.ofString "max") 36) (Value.builtin "max")) :: (DictEntry.mk (PyData.keyHash P0 (Str.ofString "min")) (Value.str (Str.ofString "min") 37) (Value.builtin "min")) :: (DictEntry.mk (PyData.keyHash P0 (Str.ofString "next")) (Value.str (Str.ofString "next") 38) (Value.builtin "next")) :: (DictEntry.mk (PyData.keyHash P0 (Str.ofString "anext")) (Value.str (Str.ofString "anext") 39) (Value.builtin "anext")) :: (DictEntry.mk (PyData.keyHash P0 (Str.ofString "oct")) (Value.str (Str.ofString "oct") 40) (Value.builtin "oct")) :: (DictEntry.mk (PyData.keyHash P0 (Str.ofString "ord")) (Value.str (Str.ofString "ord") 41) (Value.builtin "ord")) :: (DictEntry.mk (PyData.keyHash P0 (Str.ofString "pow")) (Value.str (Str.ofString "pow") 42) (Value.builtin "pow")) :: (DictEntry.mk (PyData.keyHash P0 (Str.ofString "print")) (Value.str (Str.ofString "print") 43) (Value.builtin "print")) :: (DictEntry.mk (PyData.keyHash P0 (Str.ofString "repr")) (Value.str (Str.ofString "repr") 44) (Value.builtin "repr")) :: (DictEntry.mk (PyData.keyHash P0 (Str.ofString "round")) (Value.str (Str.ofString "round") 45) (Value.builtin "round")) :: (DictEntry.mk (PyData.keyHash P0 (Str.ofString "setattr")) (Value.str (Str.ofString "setattr") 46) (Value.builtin "setattr")) :: (DictEntry.mk (PyData.keyHash P0 (Str.ofString "sorted")) (Value.str (Str.ofString "sorted") 47) (Value.builtin "sorted")) :: (DictEntry.mk (PyData.keyHash P0 (Str.ofString "sum")) (Value.str (Str.ofString "sum") 48) (Value.builtin "sum")) :: (DictEntry.mk (PyData.keyHash P0 (Str.ofString "vars")) (Value.str (Str.ofString "vars") 49) (Value.builtin "vars")) :: (DictEntry.mk (PyData.keyHash P0 (Str.ofString "None")) (Value.str (Str.ofString "None") 50) Value.none) :: (DictEntry.mk (PyData.keyHash P0 (Str.ofString "Ellipsis")) (Value.str (Str.ofString "Ellipsis") 51) Value.ellipsis) :: (DictEntry.mk (PyData.keyHash P0 (Str.ofString "NotImplemented")) (Value.str (Str.ofString "NotImplemented") 52) Value.notImplemented) :: (DictEntry.mk (PyData.keyHash P0 (Str.ofString "False")) (Value.str (Str.ofString "False") 53) (Value.bool Bool.false)) :: (DictEntry.mk (PyData.keyHash P0 (Str.ofString "True")) (Value.str (Str.ofString "True") 54) (Value.bool Bool.true)) :: (DictEntry.mk (PyData.keyHash P0 (Str.ofString "bool")) (Value.str (Str.ofString "bool") 55) (Value.type "bool")) :: (DictEntry.mk (PyData.keyHash P0 (Str.ofString "memoryview")) (Value.str (Str.ofString "memoryview") 56) (Value.type "memoryview")) :: (DictEntry.mk (PyData.keyHash P0 (Str.ofString "bytearray")) (Value.str (Str.ofString "bytearray") 57) (Value.type "bytearray")) :: (DictEntry.mk (PyData.keyHash P0 (Str.ofString "bytes")) (Value.str (Str.ofString "bytes") 58) (Value.type "bytes")) :: (DictEntry.mk (PyData.keyHash P0 (Str.ofString "classmethod")) (Value.str (Str.ofString "classmethod") 59) (Value.type "classmethod")) :: (DictEntry.mk (PyData.keyHash P0 (Str.ofString "complex")) (Value.str (Str.ofString "complex") 60) (Value.type "complex")) :: (DictEntry.mk (PyData.keyHash P0 (Str.ofString "dict")) (Value.str (Str.ofString "dict") 61) (Value.type "dict")) :: (DictEntry.mk (PyData.keyHash P0 (Str.ofString "enumerate")) (Value.str (Str.ofString "enumerate") 62) (Value.type "enumerate")) :: (DictEntry.mk (PyData.keyHash P0 (Str.ofString "filter")) (Value.str (Str.ofString "filter") 63) (Value.type "filter")) :: (DictEntry.mk (PyData.keyHash P0 (Str.ofString "float")) (Value.str (Str.ofString "float") 64) (Value.type "float")) :: (DictEntry.mk (PyData.keyHash P0 (Str.ofString "frozenset")) (Value.str (Str.ofString "frozenset") 65) (Value.type "frozenset")) :: (DictEntry.mk (PyData.keyHash P0 (Str.ofString "property")) (Value.str (Str.ofString "property") 66) (Value.type "property")) :: (DictEntry.mk (PyData.keyHash P0 (Str.ofString "int")) (Value.str (Str.ofString "int") 67) (Value.type "int")) :: (DictEntry.mk (PyData.keyHash P0 (Str.ofString "list")) (Value.str (Str.ofString "list") 68) (Value.type "list")) :: (DictEntry.mk (PyData.keyHash P0 (Str.ofString "map")) (Value.str (Str.ofString "map") 69) (Value.type "map")) :: (DictEntry.mk (PyData.keyHash P0 (Str.ofString "object")) (Value.str (Str.ofString "object") 70) (Value.type "object")) :: (DictEntry.mk (PyData.keyHash P0 (Str.ofString "range")) (Value.str (Str.ofString "range") 71) (Value.type "range")) :: (DictEntry.mk (PyData.keyHash P0 (Str.ofString "reversed")) (Value.str (Str.ofString "reversed") 72) (Value.type "reversed")) :: (DictEntry.mk (PyData.keyHash P0 (Str.ofString "set")) (Value.str (Str.ofString "set") 73) (Value.type "set")) :: (DictEntry.mk (PyData.keyHash P0 (Str.ofString "slice")) (Value.str (Str.ofString "slice") 74) (Value.type "slice")) :: (DictEntry.mk (PyData.keyHash P0 (Str.ofString "staticmethod")) (Value.str (Str.ofString "staticmethod") 75) (Value.type "staticmethod")) :: (DictEntry.mk (PyData.keyHash P0 (Str.ofString "str")) (Value.str (Str.ofString "str") 76) (Value.type "str")) :: (DictEntry.mk (PyData.keyHash P0 (Str.ofString "super")) (Value.str (Str.ofString "super") 77) (Value.type "super")) :: (DictEntry.mk (PyData.keyHash P0 (Str.ofString "tuple")) (Value.str (Str.ofString "tuple") 78) (Value.type "tuple")) :: (DictEntry.mk (PyData.keyHash P0 (Str.ofString "type")) (Value.str (Str.ofString "type") 79) (Value.type "type")) :: (DictEntry.mk (PyData.keyHash P0 (Str.ofString "zip")) (Value.str (Str.ofString "zip") 80) (Value.type "zip")) :: (DictEntry.mk (PyData.keyHash P0 (Str.ofString "__debug__")) (Value.str (Str.ofString "__debug__") 81) (Value.bool Bool.true)) :: (DictEntry.mk (PyData.keyHash P0 (Str.ofString "BaseException")) (Value.str (Str.ofString "BaseException") 82) (Value.type "BaseException")) :: (DictEntry.mk (PyData.keyHash P0 (Str.ofString "BaseExceptionGroup")) (Value.str (Str.ofString "BaseExceptionGroup") 83) (Value.type "BaseExceptionGroup")) :: (DictEntry.mk (PyData.keyHash P0 (Str.ofString "Exception")) (Value.str (Str.ofString "Exception") 84) (Value.type "Exception")) :: (DictEntry.mk (PyData.keyHash P0 (Str.ofString "GeneratorExit")) (Value.str (Str.ofString "GeneratorExit") 85) (Value.type "GeneratorExit")) :: (DictEntry.mk (PyData.keyHash P0 (Str.ofString "KeyboardInterrupt")) (Value.str (Str.ofString "KeyboardInterrupt") 86) (Value.type "KeyboardInterrupt")) :: (DictEntry.mk (PyData.keyHash P0 (Str.ofString "SystemExit")) (Value.str (Str.ofString "SystemExit") 87) (Value.type "SystemExit")) :: (DictEntry.mk (PyData.keyHash P0 (Str.ofString "ArithmeticError")) (Value.str (Str.ofString "ArithmeticError") 88) (Value.type "ArithmeticError")) :: (DictEntry.mk (PyData.keyHash P0 (Str.ofString "AssertionError")) (Value.str (Str.ofString "AssertionError") 89) (Value.type "AssertionError")) :: (DictEntry.mk (PyData.keyHash P0 (Str.ofString "AttributeError")) (Value.str (Str.ofString "AttributeError") 90) (Value.type "AttributeError")) :: (DictEntry.mk (PyData.keyHash P0 (Str.ofString "BufferError")) (Value.str (Str.ofString "BufferError") 91) (Value.type "BufferError")) :: (DictEntry.mk (PyData.keyHash P0 (Str.ofString "EOFError")) (Value.str (Str.ofString "EOFError") 92) (Value.type "EOFError")) :: (DictEntry.mk (PyData.keyHash P0 (Str.ofString "ImportError")) (Value.str (Str.ofString "ImportError") 93) (Value.type "ImportError")) :: (DictEntry.mk (PyData.keyHash P0 (Str.ofString "LookupError")) (Value.str (Str.ofString "LookupError") 94) (Value.type "LookupError")) :: (DictEntry.mk (PyData.keyHash P0 (Str.ofString "MemoryError")) (Value.str (Str.ofString "MemoryError") 95) (Value.type "MemoryError")) :: (DictEntry.mk (PyData.keyHash P0 (Str.ofString "NameError")) (Value.str (Str.ofString "NameError") 96) (Value.type "NameError")) :: (DictEntry.mk (PyData.keyHash P0 (Str.ofString "OSError")) (Value.str (Str.ofString "OSError") 97) (Value.type "OSError")) :: (DictEntry.mk (PyData.keyHash P0 (Str.ofString "ReferenceError")) (Value.str (Str.ofString "ReferenceError") 98) (Value.type "ReferenceError")) :: (DictEntry.mk (PyData.keyHash P0 (Str.ofString "RuntimeError")) (Value.str (Str.ofString "RuntimeError") 99) (Value.type "RuntimeError")) :: (DictEntry.mk (PyData.keyHash P0 (Str.ofString "StopAsyncIteration")) (Value.str (Str.ofString "StopAsyncIteration") 100) (Value.type "StopAsyncIteration")) :: (DictEntry.mk (PyData.keyHash P0 (Str.ofString "StopIteration")) (Value.str (Str.ofString "StopIteration") 101) (Value.type "StopIteration")) :: (DictEntry.mk (PyData.keyHash P0 (Str.ofString "SyntaxError")) (Value.str (Str.ofString "SyntaxError") 102) (Value.type "SyntaxError")) :: (DictEntry.mk (PyData.keyHash P0 (Str.ofString "SystemError")) (Value.str (Str.ofString "SystemError") 103) (Value.type "SystemError")) :: (DictEntry.mk (PyData.keyHash P0 (Str.ofString "TypeError")) (Value.str (Str.ofString "TypeError") 104) (Value.type "TypeError")) :: (DictEntry.mk (PyData.keyHash P0 (Str.ofString "ValueError")) (Value.str (Str.ofString "ValueError") 105) (Value.type "ValueError")) :: (DictEntry.mk (PyData.keyHash P0 (Str.ofString "Warning")) (Value.str (Str.ofString "Warning") 106) (Value.type "Warning")) :: (DictEntry.mk (PyData.keyHash P0 (Str.ofString "FloatingPointError")) (Value.str (Str.ofString "FloatingPointError") 107) (Value.type "FloatingPointError")) :: (DictEntry.mk (PyData.keyHash P0 (Str.ofString "OverflowError")) (Value.str (Str.ofString "OverflowError") 108) (Value.type "OverflowError")) :: (DictEntry.mk (PyData.keyHash P0 (Str.ofString "ZeroDivisionError")) (Value.str (Str.ofString "ZeroDivisionError") 109) (Value.type "ZeroDivisionError")) :: (DictEntry.mk (PyData.keyHash P0 (Str.ofString "BytesWarning")) (Value.str (Str.ofString "BytesWarning") 110) (Value.type "BytesWarning")) :: (DictEntry.mk (PyData.keyHash P0 (Str.ofString "DeprecationWarning")) (Value.str (Str.ofString "DeprecationWarning") 111) (Value.type "DeprecationWarning")) :: (DictEntry.mk (PyData.keyHash P0 (Str.ofString "EncodingWarning")) (Value.str (Str.ofString "EncodingWarning") 112) (Value.type "EncodingWarning")) :: (DictEntry.mk (PyData.keyHash P0 (Str.ofString "FutureWarning")) (Value.str (Str.ofString "FutureWarning") 113) (Value.type "FutureWarning")) :: (DictEntry.mk (PyData.keyHash P0 (Str.ofString "ImportWarning")) (Value.str (Str.ofString "ImportWarning") 114) (Value.type "ImportWarning")) :: (DictEntry.mk (PyData.keyHash P0 (Str.ofString "PendingDeprecationWarning")) (Value.str (Str.ofString "PendingDeprecationWarning") 115) (Value.type "PendingDeprecationWarning")) :: (DictEntry.mk (PyData.keyHash P0 (Str.ofString "ResourceWarning")) (Value.str (Str.ofString "ResourceWarning") 116) (Value.type "ResourceWarning")) :: (DictEntry.mk (PyData.keyHash P0 (Str.ofString "RuntimeWarning")) (Value.str (Str.ofString "RuntimeWarning") 117) (Value.type "RuntimeWarning")) :: (DictEntry.mk (PyData.keyHash P0 (Str.ofString "SyntaxWarning")) (Value.str (Str.ofString "SyntaxWarning") 118) (Value.type "SyntaxWarning")) :: (DictEntry.mk (PyData.keyHash P0 (Str.ofString "UnicodeWarning")) (Value.str (Str.ofString "UnicodeWarning") 119) (Value.type "UnicodeWarning")) :: (DictEntry.mk (PyData.keyHash P0 (Str.ofString "UserWarning")) (Value.str (Str.ofString "UserWarning") 120) (Value.type "UserWarning")) :: (DictEntry.mk (PyData.keyHash P0 (Str.ofString "BlockingIOError")) (Value.str (Str.ofString "BlockingIOError") 121) (Value.type "BlockingIOError")) :: (DictEntry.mk (PyData.keyHash P0 (Str.ofString "ChildProcessError")) (Value.str (Str.ofString "ChildProcessError") 122) (Value.type "ChildProcessError")) :: (DictEntry.mk (PyData.keyHash P0 (Str.ofString "ConnectionError")) (Value.str (Str.ofString "ConnectionError") 123) (Value.type "ConnectionError")) :: (DictEntry.mk (PyData.keyHash P0 (Str.ofString "FileExistsError")) (Value.str (Str.ofString "FileExistsError") 124) (Value.type "FileExistsError")) :: (DictEntry.mk (PyData.keyHash P0 (Str.ofString "FileNotFoundError")) (Value.str (Str.ofString "FileNotFoundError") 125) (Value.type "FileNotFoundError")) :: (DictEntry.mk (PyData.keyHash P0 (Str.ofString "InterruptedError")) (Value.str (Str.ofString "InterruptedError") 126) (Value.type "InterruptedError")) :: (DictEntry.mk (PyData.keyHash P0 (Str.ofString "IsADirectoryError")) (Value.str (Str.ofString "IsADirectoryError") 127) (Value.type "IsADirectoryError")) :: (DictEntry.mk (PyData.keyHash P0 (Str.ofString "NotADirectoryError")) (Value.str (Str.ofString "NotADirectoryError") 128) (Value.type "NotADirectoryError")) :: (DictEntry.mk (PyData.keyHash P0 (Str.ofString "PermissionError")) (Value.str (Str.ofString "PermissionError") 129) (Value.type "PermissionError")) :: (DictEntry.mk (PyData.keyHash P0 (Str.ofString "ProcessLookupError")) (Value.str (Str.ofString "ProcessLookupError") 130) (Value.type "ProcessLookupError")) :: (DictEntry.mk (PyData.keyHash P0 (Str.ofString "TimeoutError")) (Value.str (Str.ofString "TimeoutError") 131) (Value.type "TimeoutError")) :: (DictEntry.mk (PyData.keyHash P0 (Str.ofString "IndentationError")) (Value.str (Str.ofString "IndentationError") 132) (Value.type "IndentationError")) :: (DictEntry.mk (PyData.keyHash P0 (Str.ofString "_IncompleteInputError")) (Value.str (Str.ofString "_IncompleteInputError") 133) (Value.type "_IncompleteInputError")) :: (DictEntry.mk (PyData.keyHash P0 (Str.ofString "IndexError")) (Value.str (Str.ofString "IndexError") 134) (Value.type "IndexError")) :: (DictEntry.mk (PyData.keyHash P0 (Str.ofString "KeyError")) (Value.str (Str.ofString "KeyError") 135) (Value.type "KeyError")) :: (DictEntry.mk (PyData.keyHash P0 (Str.ofString "ModuleNotFoundError")) (Value.str (Str.ofString "ModuleNotFoundError") 136) (Value.type "ModuleNotFoundError")) :: (DictEntry.mk (PyData.keyHash P0 (Str.ofString "NotImplementedError")) (Value.str (Str.ofString "NotImplementedError") 137) (Value.type "NotImplementedError")) :: (DictEntry.mk (PyData.keyHash P0 (Str.ofString "PythonFinalizationError")) (Value.str (Str.ofString "PythonFinalizationError") 138) (Value.type "PythonFinalizationError")) :: (DictEntry.mk (PyData.keyHash P0 (Str.ofString "RecursionError")) (Value.str (Str.ofString "RecursionError") 139) (Value.type "RecursionError")) :: (DictEntry.mk (PyData.keyHash P0 (Str.ofString "UnboundLocalError")) (Value.str (Str.ofString "UnboundLocalError") 140) (Value.type "UnboundLocalError")) :: (DictEntry.mk (PyData.keyHash P0 (Str.ofString "UnicodeError")) (Value.str (Str.ofString "UnicodeError") 141) (Value.type "UnicodeError")) :: (DictEntry.mk (PyData.keyHash P0 (Str.ofString "BrokenPipeError")) (Value.str (Str.ofString "BrokenPipeError") 142) (Value.type "BrokenPipeError")) :: (DictEntry.mk (PyData.keyHash P0 (Str.ofString "ConnectionAbortedError")) (Value.str (Str.ofString "ConnectionAbortedError") 143) (Value.type "ConnectionAbortedError")) :: (DictEntry.mk (PyData.keyHash P0 (Str.ofString "ConnectionRefusedError")) (Value.str (Str.ofString "ConnectionRefusedError") 144) (Value.type "ConnectionRefusedError")) :: (DictEntry.mk (PyData.keyHash P0 (Str.ofString "ConnectionResetError")) (Value.str (Str.ofString "ConnectionResetError") 145) (Value.type "ConnectionResetError")) :: (DictEntry.mk (PyData.keyHash P0 (Str.ofString "TabError")) (Value.str (Str.ofString "TabError") 146) (Value.type "TabError")) :: (DictEntry.mk (PyData.keyHash P0 (Str.ofString "UnicodeDecodeError")) (Value.str (Str.ofString "UnicodeDecodeError") 147) (Value.type "UnicodeDecodeError")) :: (DictEntry.mk (PyData.keyHash P0 (Str.ofString "UnicodeEncodeError")) (Value.str (Str.ofString "UnicodeEncodeError") 148) (Value.type "UnicodeEncodeError")) :: (DictEntry.mk (PyData.keyHash P0 (Str.ofString "UnicodeTranslateError")) (Value.str (Str.ofString "UnicodeTranslateError") 149) (Value.type "UnicodeTranslateError")) :: (DictEntry.mk (PyData.keyHash P0 (Str.ofString "ExceptionGroup")) (Value.str (Str.ofString "ExceptionGroup") 150) (Value.type "ExceptionGroup")) :: (DictEntry.mk (PyData.keyHash P0 (Str.ofString "EnvironmentError")) (Value.str (Str.ofString "EnvironmentError") 151) (Value.type "OSError")) :: (DictEntry.mk (PyData.keyHash P0 (Str.ofString "IOError")) (Value.str (Str.ofString "IOError") 152) (Value.type "OSError")) :: (DictEntry.mk (PyData.keyHash P0 (Str.ofString "open")) (Value.str (Str.ofString "open") 153) (Value.builtin "open")) :: (DictEntry.mk (PyData.keyHash P0 (Str.ofString "quit")) (Value.str (Str.ofString "quit") 154) (Value.builtin "builtins.quit#opaque")) :: (DictEntry.mk (PyData.keyHash P0 (Str.ofString "exit")) (Value.str (Str.ofString "exit") 155) (Value.builtin "builtins.exit#opaque")) :: (DictEntry.mk (PyData.keyHash P0 (Str.ofString "copyright")) (Value.str (Str.ofString "copyright") 156) (Value.builtin "builtins.copyright#opaque")) :: (DictEntry.mk (PyData.keyHash P0 (Str.ofString "credits")) (Value.str (Str.ofString "credits") 157) (Value.builtin "builtins.credits#opaque")) :: (DictEntry.mk (PyData.keyHash P0 (Str.ofString "license")) (Value.str (Str.ofString "license") 158) (Value.builtin "builtins.license#opaque")) :: (DictEntry.mk (PyData.keyHash P0 (Str.ofString "help")) (Value.str (Str.ofString "help") 159) (Value.builtin "builtins.help#opaque")) :: [])) 159) #[]) :: (nat_lit 1,Obj.mk (Value.type "dict") Option.none (Data.dict #[DictEntry.mk (PyData.keyHash P0 (Str.ofString "builtins")) (Value.str (Str.ofString "builtins") 162) (Value.ref 4),DictEntry.mk (PyData.keyHash P0 (Str.ofString "__main__")) (Value.str (Str.ofString "__main__") 163) (Value.ref 5)] 2) #[]) :: (nat_lit 2,Obj.mk Value.none Option.none (Data.dict #[DictEntry.mk (PyData.keyHash P0 (Str.ofString "type.__subclasses__.Exception.0")) (Value.str (Str.ofString "type.__subclasses__.Exception.0") 234) (Value.int (OfNat.ofNat (nat_lit 48)) 0),DictEntry.mk (PyData.keyHash P0 (Str.ofString "type.__subclasses__.Exception.n")) (Value.str (Str.ofString "type.__subclasses__.Exception.n") 235) (Value.int (OfNat.ofNat (nat_lit 1)) 0)] 2) #[]) :: (nat_lit 3,Obj.mk (Value.type "dict") Option.none (Data.dict #[DictEntry.mk (PyData.keyHash P0 (Str.ofString "__name__")) (Value.str (Str.ofString "__name__") 165) (Value.str (Str.ofString "law_pb0178_01") 532),DictEntry.mk (PyData.keyHash P0 (Str.ofString "__doc__")) (Value.str (Str.ofString "__doc__") 166) Value.none,DictEntry.mk (PyData.keyHash P0 (Str.ofString "__package__")) (Value.str (Str.ofString "__package__") 167) Value.none,DictEntry.mk (PyData.keyHash P0 (Str.ofString "__loader__")) (Value.str (Str.ofString "__loader__") 168) (Value.builtin "__main__.__loader__#opaque"),DictEntry.mk (PyData.keyHash P0 (Str.ofString "__spec__")) (Value.str (Str.ofString "__spec__") 169) Value.none,DictEntry.mk (PyData.keyHash P0 (Str.ofString "__annotations__")) (Value.str (Str.ofString "__annotations__") 170) (Value.ref 6),DictEntry.mk (PyData.keyHash P0 (Str.ofString "__builtins__")) (Value.str (Str.ofString "__builtins__") 171) (Value.ref 4),DictEntry.mk (PyData.keyHash P0 (Str.ofString "__file__")) (Value.str (Str.ofString "__file__") 173) (Value.str (Str.ofString "/claim/cut.py") 172),DictEntry.mk (PyData.keyHash P0 (Str.ofString "__cached__")) (Value.str (Str.ofString "__cached__") 174) Value.none,DictEntry.mk (PyData.keyHash P0 (Str.ofString "_wall")) (Value.str (Str.ofString "_wall") 193) (Value.ref 21),DictEntry.mk (PyData.keyHash P0 (Str.ofString "ShapeError")) (Value.str (Str.ofString "ShapeError") 237) (Value.ref 48),DictEntry.mk (PyData.keyHash P0 (Str.ofString "TableFault")) (Value.str (Str.ofString "TableFault") 253) (Value.ref 61),DictEntry.mk (PyData.keyHash P0 (Str.ofString "FontFault")) (Value.str (Str.ofString "FontFault") 269) (Value.ref 73),DictEntry.mk (PyData.keyHash P0 (Str.ofString "check_room")) (Value.str (Str.ofString "check_room") 280) (Value.ref 82),DictEntry.mk (PyData.keyHash P0 (Str.ofString "number_at")) (Value.str (Str.ofString "number_at") 291) (Value.ref 89),DictEntry.mk (PyData.keyHash P0 (Str.ofString "u32_at")) (Value.str (Str.ofString "u32_at") 299) (Value.ref 96),DictEntry.mk (PyData.keyHash P0 (Str.ofString "OctetsIn")) (Value.str (Str.ofString "OctetsIn") 403) (Value.ref 180),DictEntry.mk (PyData.keyHash P0 (Str.ofString "PLAIN")) (Value.str (Str.ofString "PLAIN") 407) (Value.int (OfNat.ofNat (nat_lit 65536)) 406),DictEntry.mk (PyData.keyHash P0 (Str.ofString "OTTO")) (Value.str (Str.ofString "OTTO") 409) (Value.int (OfNat.ofNat (nat_lit 1330926671)) 408),DictEntry.mk (PyData.keyHash P0 (Str.ofString "APPLE")) (Value.str (Str.ofString "APPLE") 411) (Value.int (OfNat.ofNat (nat_lit 1953658213)) 410),DictEntry.mk (PyData.keyHash P0 (Str.ofString "VERSIONS")) (Value.str (Str.ofString "VERSIONS") 412) (Value.ref 185),DictEntry.mk (PyData.keyHash P0 (Str.ofString "COLLECTION")) (Value.str (Str.ofString "COLLECTION") 414) (Value.int (OfNat.ofNat (nat_lit 1953784678)) 413),DictEntry.mk (PyData.keyHash P0 (Str.ofString "HEADER_SIZE")) (Value.str (Str.ofString "HEADER_SIZE") 416) (Value.int (OfNat.ofNat (nat_lit 12)) 415),DictEntry.mk (PyData.keyHash P0 (Str.ofString "RECORD_SIZE")) (Value.str (Str.ofString "RECORD_SIZE") 418) (Value.int (OfNat.ofNat (nat_lit 16)) 417),DictEntry.mk (PyData.keyHash P0 (Str.ofString "MOST_FONTS")) (Value.str (Str.ofString "MOST_FONTS") 420) (Value.int (OfNat.ofNat (nat_lit 64)) 419),DictEntry.mk (PyData.keyHash P0 (Str.ofString "Record")) (Value.str (Str.ofString "Record") 464) (Value.ref 209),DictEntry.mk (PyData.keyHash P0 (Str.ofString "directory_size")) (Value.str (Str.ofString "directory_size") 471) (Value.ref 220),DictEntry.mk (PyData.keyHash P0 (Str.ofString "read_record")) (Value.str (Str.ofString "read_record") 483) (Value.ref 227),DictEntry.mk (PyData.keyHash P0 (Str.ofString "need_in_order")) (Value.str (Str.ofString "need_in_order") 493) (Value.ref 234),DictEntry.mk (PyData.keyHash P0 (Str.ofString "need_apart")) (Value.str (Str.ofString "need_apart") 499) (Value.ref 239),DictEntry.mk (PyData.keyHash P0 (Str.ofString "read_records")) (Value.str (Str.ofString "read_records") 505) (Value.ref 244),DictEntry.mk (PyData.keyHash P0 (Str.ofString "tables_of")) (Value.str (Str.ofString "tables_of") 511) (Value.ref 249),DictEntry.mk (PyData.keyHash P0 (Str.ofString "is_collection")) (Value.str (Str.ofString "is_collection") 518) (Value.ref 256),DictEntry.mk (PyData.keyHash P0 (Str.ofString "read_collection")) (Value.str (Str.ofString "read_collection") 531) (Value.ref 263),DictEntry.mk (PyData.keyHash P0 (Str.ofString "_law_versions")) (Value.str (Str.ofString "_law_versions") 537) (Value.ref 264),DictEntry.mk (PyData.keyHash P0 (Str.ofString "_law_draw")) (Value.str (Str.ofString "_law_draw") 547) (Value.ref 271),DictEntry.mk (PyData.keyHash P0 (Str.ofString "_law_octets")) (Value.str (Str.ofString "_law_octets") 553) (Value.ref 276),DictEntry.mk (PyData.keyHash P0 (Str.ofString "_law_font")) (Value.str (Str.ofString "_law_font") 559) (Value.ref 281),DictEntry.mk (PyData.keyHash P0 (Str.ofString "_law_refused")) (Value.str (Str.ofString "_law_refused") 566) (Value.ref 288),DictEntry.mk (PyData.keyHash P0 (Str.ofString "law")) (Value.str (Str.ofString "law") 572) (Value.ref 293)] 40) #[]) :: (nat_lit 4,Obj.mk (Value.type "module") (Option.some 0) Data.plain #[]) :: (nat_lit 5,Obj.mk (Value.type "module") (Option.some 3) Data.plain #[]) :: (nat_lit 6,Obj.mk (Value.type "dict") Option.none (Data.dict #[] 0) #[]) :: (nat_lit 7,Obj.mk (Value.type "tuple") Option.none (Data.seq #[] 0) #[]) :: (nat_lit 8,Obj.mk Value.none Option.none (Data.fields #[]) #[]) :: (nat_lit 9,Obj.mk (Value.type "code") Option.none (Data.fields #[Value.str (Str.ofString "<module>") 176,Value.str (Str.ofString "<module>") 177,Value.str (Str.ofString "/claim/cut.py") 178,Value.int (OfNat.ofNat (nat_lit 1)) 0,Value.int (OfNat.ofNat (nat_lit 0)) 0,Value.int (OfNat.ofNat (nat_lit 0)) 0,Value.int (OfNat.ofNat (nat_lit 0)) 0,Value.int (OfNat.ofNat (nat_lit 0)) 0,Value.ref 7,Value.bool Bool.false,Value.int (OfNat.ofNat (nat_lit 175)) 0,Value.ref 8,Value.none,Value.none,Value.none,Value.none,Value.int (OfNat.ofNat (nat_lit 179)) 0,Value.int (OfNat.ofNat (nat_lit 1)) 0,Value.str (Str.ofString "/claim/cut.py") 180]) #[]) :: (nat_lit 10,Obj.mk (Value.type "frame") Option.none Data.plain #[Option.some (Value.ref 9),Option.some (Value.ref 3),Option.some (Value.ref 3),Option.none,Option.some (Value.str (Str.ofString "__main__") 164),Option.none,Option.some (Value.ref 0)]) :: (nat_lit 11,Obj.mk (Value.type "tuple") Option.none (Data.seq #[] 0) #[]) :: (nat_lit 12,Obj.mk Value.none Option.none (Data.fields (List.toArray ((Value.int (OfNat.ofNat (nat_lit 1)) 0) :: (Value.int (OfNat.ofNat (nat_lit 0)) 0) :: (Value.ref 20) :: (Value.int (OfNat.ofNat (nat_lit 5)) 0) :: (Value.int (OfNat.ofNat (nat_lit 0)) 0) :: (Value.ref 28) :: (Value.int (OfNat.ofNat (nat_lit 14)) 0) :: (Value.int (OfNat.ofNat (nat_lit 0)) 0) :: (Value.ref 57) :: (Value.int (OfNat.ofNat (nat_lit 16)) 0) :: (Value.int (OfNat.ofNat (nat_lit 0)) 0) :: (Value.ref 69) :: (Value.int (OfNat.ofNat (nat_lit 19)) 0) :: (Value.int (OfNat.ofNat (nat_lit 0)) 0) :: (Value.ref 81) :: (Value.int (OfNat.ofNat (nat_lit 22)) 0) :: (Value.int (OfNat.ofNat (nat_lit 0)) 0) :: (Value.ref 88) :: (Value.int (OfNat.ofNat (nat_lit 28)) 0) :: (Value.int (OfNat.ofNat (nat_lit 0)) 0) :: (Value.ref 95) :: (Value.int (OfNat.ofNat (nat_lit 30)) 0) :: (Value.int (OfNat.ofNat (nat_lit 0)) 0) :: (Value.ref 102) :: (Value.int (OfNat.ofNat (nat_lit 80)) 0) :: (Value.int (OfNat.ofNat (nat_lit 0)) 0) :: (Value.ref 191) :: (Value.int (OfNat.ofNat (nat_lit 91)) 0) :: (Value.int (OfNat.ofNat (nat_lit 0)) 0) :: (Value.ref 219) :: (Value.int (OfNat.ofNat (nat_lit 93)) 0) :: (Value.int (OfNat.ofNat (nat_lit 0)) 0) :: (Value.ref 226) :: (Value.int (OfNat.ofNat (nat_lit 99)) 0) :: (Value.int (OfNat.ofNat (nat_lit 0)) 0) :: (Value.ref 233) :: (Value.int (OfNat.ofNat (nat_lit 106)) 0) :: (Value.int (OfNat.ofNat (nat_lit 0)) 0) :: (Value.ref 238) :: (Value.int (OfNat.ofNat (nat_lit 113)) 0) :: (Value.int (OfNat.ofNat (nat_lit 0)) 0) :: (Value.ref 243) :: (Value.int (OfNat.ofNat (nat_lit 127)) 0) :: (Value.int (OfNat.ofNat (nat_lit 0)) 0) :: (Value.ref 248) :: (Value.int (OfNat.ofNat (nat_lit 129)) 0) :: (Value.int (OfNat.ofNat (nat_lit 0)) 0) :: (Value.ref 255) :: (Value.int (OfNat.ofNat (nat_lit 131)) 0) :: (Value.int (OfNat.ofNat (nat_lit 0)) 0) :: (Value.ref 262) :: (Value.int (OfNat.ofNat (nat_lit 147)) 0) :: (Value.int (OfNat.ofNat (nat_lit 0)) 0) :: (Value.ref 270) :: (Value.int (OfNat.ofNat (nat_lit 151)) 0) :: (Value.int (OfNat.ofNat (nat_lit 0)) 0) :: (Value.ref 275) :: (Value.int (OfNat.ofNat (nat_lit 153)) 0) :: (Value.int (OfNat.ofNat (nat_lit 0)) 0) :: (Value.ref 280) :: (Value.int (OfNat.ofNat (nat_lit 158)) 0) :: (Value.int (OfNat.ofNat (nat_lit 0)) 0) :: (Value.ref 287) :: (Value.int (OfNat.ofNat (nat_lit 164)) 0) :: (Value.int (OfNat.ofNat (nat_lit 0)) 0) :: (Value.ref 292) :: []))) #[]) :: (nat_lit 13,Obj.mk (Value.type "code") Option.none (Data.fields #[Value.str (Str.ofString "<module>") 182,Value.str (Str.ofString "<module>") 183,Value.str (Str.ofString "/claim/cut.py") 184,Value.int (OfNat.ofNat (nat_lit 1)) 0,Value.int (OfNat.ofNat (nat_lit 0)) 0,Value.int (OfNat.ofNat (nat_lit 0)) 0,Value.int (OfNat.ofNat (nat_lit 0)) 0,Value.int (OfNat.ofNat (nat_lit 0)) 0,Value.ref 11,Value.bool Bool.false,Value.int (OfNat.ofNat (nat_lit 181)) 0,Value.ref 12,Value.none,Value.none,Value.none,Value.none,Value.int (OfNat.ofNat (nat_lit 185)) 0,Value.int (OfNat.ofNat (nat_lit 1)) 0,Value.str (Str.ofString "/claim/cut.py") 186]) #[]) :: (nat_lit 14,Obj.mk (Value.type "frame") Option.none Data.plain #[Option.some (Value.ref 13),Option.some (Value.ref 3),Option.some (Value.ref 3),Option.none,Option.some (Value.str (Str.ofString "__main__") 164),Option.none,Option.some (Value.ref 0)]) :: (nat_lit 15,Obj.mk (Value.type "tuple") Option.none (Data.seq #[] 0) #[]) :: (nat_lit 16,Obj.mk Value.none Option.none (Data.fields #[]) #[]) :: (nat_lit 17,Obj.mk (Value.type "tuple") Option.none (Data.seq #[Value.str (Str.ofString "k") 190] 0) #[]) :: (nat_lit 18,Obj.mk (Value.type "tuple") Option.none (Data.seq #[] 0) #[]) :: (nat_lit 19,Obj.mk Value.none Option.none (Data.func (fnD (rfl : (pS 0) = .FunctionDef _ _ _ _ _ _ _ _ _ _) (Str.ofString "_wall") 0 [] Value.none Value.none Value.none Value.none Option.none Value.none Value.none 0)) #[]) :: (nat_lit 20,Obj.mk (Value.type "code") Option.none (Data.fields #[Value.str (Str.ofString "_wall") 187,Value.str (Str.ofString "_wall") 188,Value.str (Str.ofString "/claim/cut.py") 189,Value.int (OfNat.ofNat (nat_lit 1)) 0,Value.int (OfNat.ofNat (nat_lit 1)) 0,Value.int (OfNat.ofNat (nat_lit 0)) 0,Value.int (OfNat.ofNat (nat_lit 0)) 0,Value.int (OfNat.ofNat (nat_lit 3)) 0,Value.ref 15,Value.bool Bool.true,Value.int (OfNat.ofNat (nat_lit 181)) 0,Value.ref 16,Value.none,Value.ref 17,Value.ref 18,Value.ref 19,Value.int (OfNat.ofNat (nat_lit 191)) 0,Value.int (OfNat.ofNat (nat_lit 1)) 0,Value.str (Str.ofString "/claim/cut.py") 192]) #[]) :: (nat_lit 21,Obj.mk (Value.type "function") Option.none (Data.func (fnD (rfl : (pS 0) = .FunctionDef _ _ _ _ _ _ _ _ _ _) (Str.ofString "_wall") 3 [] Value.none Value.none Value.none (Value.str (Str.ofString "__main__") 164) Option.none (Value.ref 20) Value.none 0)) #[]) :: (nat_lit 22,Obj.mk (Value.type "tuple") Option.none (Data.seq #[Value.type "Exception"] 0) #[]) :: (nat_lit 25,Obj.mk (Value.type "cell") Option.none (Data.cell (Option.some (Value.ref 48))) #[]) :: (nat_lit 30,Obj.mk (Value.type "tuple") Option.none (Data.seq #[Value.int (Neg.neg (OfNat.ofNat (nat_lit 1))) 209] 0) #[]) :: (nat_lit 31,Obj.mk (Value.type "tuple") Option.none (Data.seq #[Value.ref 25] 0) #[]) :: (nat_lit 32,Obj.mk (Value.type "tuple") Option.none (Data.seq #[Value.str (Str.ofString "__class__") 213] 0) #[]) :: (nat_lit 33,Obj.mk Value.none Option.none (Data.fields #[]) #[]) :: (nat_lit 34,Obj.mk (Value.type "tuple") Option.none (Data.seq #[Value.str (Str.ofString "self") 214,Value.str (Str.ofString "what") 215,Value.str (Str.ofString "at") 216] 0) #[]) :: (nat_lit 35,Obj.mk (Value.type "tuple") Option.none (Data.seq #[] 0) #[]) :: (nat_lit 36,Obj.mk Value.none Option.none (Data.func (fnD (rfl : (pM 2 0) = .FunctionDef _ _ _ _ _ _ _ _ _ _) (Str.ofString "ShapeError.__init__") 0 [] Value.none Value.none Value.none Value.none Option.none Value.none Value.none 0)) #[]) :: (nat_lit 37,Obj.mk (Value.type "code") Option.none (Data.fields #[Value.str (Str.ofString "__init__") 210,Value.str (Str.ofString "ShapeError.__init__") 211,Value.str (Str.ofString "/claim/cut.py") 212,Value.int (OfNat.ofNat (nat_lit 7)) 0,Value.int (OfNat.ofNat (nat_lit 3)) 0,Value.int (OfNat.ofNat (nat_lit 0)) 0,Value.int (OfNat.ofNat (nat_lit 0)) 0,Value.int (OfNat.ofNat (nat_lit 3)) 0,Value.ref 32,Value.bool Bool.true,Value.int (OfNat.ofNat (nat_lit 181)) 0,Value.ref 33,Value.none,Value.ref 34,Value.ref 35,Value.ref 36,Value.int (OfNat.ofNat (nat_lit 217)) 0,Value.int (OfNat.ofNat (nat_lit 7)) 0,Value.str (Str.ofString "/claim/cut.py") 218]) #[]) :: (nat_lit 38,Obj.mk (Value.type "function") Option.none (Data.func (fnD (rfl : (pM 2 0) = .FunctionDef _ _ _ _ _ _ _ _ _ _) (Str.ofString "ShapeError.__init__") 3 [(Str.ofString "__class__",25)] (Value.ref 30) Value.none Value.none (Value.str (Str.ofString "joinedhand.errors") 194) Option.none (Value.ref 37) (Value.ref 31) 0)) #[]) :: (nat_lit 39,Obj.mk (Value.type "tuple") Option.none (Data.seq #[] 0) #[]) :: (nat_lit 40,Obj.mk Value.none Option.none (Data.fields #[]) #[]) :: (nat_lit 41,Obj.mk (Value.type "tuple") Option.none (Data.seq #[Value.str (Str.ofString "self") 223] 0) #[]) :: (nat_lit 42,Obj.mk (Value.type "tuple") Option.none (Data.seq #[] 0) #[]) :: (nat_lit 43,Obj.mk Value.none Option.none (Data.func (fnD (rfl : (pM 2 1) = .FunctionDef _ _ _ _ _ _ _ _ _ _) (Str.ofString "ShapeError.told") 0 [] Value.none Value.none Value.none Value.none Option.none Value.none Value.none 0)) #[]) :: (nat_lit 44,Obj.mk (Value.type "code") Option.none (Data.fields #[Value.str (Str.ofString "told") 220,Value.str (Str.ofString "ShapeError.told") 221,Value.str (Str.ofString "/claim/cut.py") 222,Value.int (OfNat.ofNat (nat_lit 12)) 0,Value.int (OfNat.ofNat (nat_lit 1)) 0,Value.int (OfNat.ofNat (nat_lit 0)) 0,Value.int (OfNat.ofNat (nat_lit 0)) 0,Value.int (OfNat.ofNat (nat_lit 3)) 0,Value.ref 39,Value.bool Bool.true,Value.int (OfNat.ofNat (nat_lit 181)) 0,Value.ref 40,Value.none,Value.ref 41,Value.ref 42,Value.ref 43,Value.int (OfNat.ofNat (nat_lit 224)) 0,Value.int (OfNat.ofNat (nat_lit 12)) 0,Value.str (Str.ofString "/claim/cut.py") 225]) #[]) :: (nat_lit 45,Obj.mk (Value.type "function") Option.none (Data.func (fnD (rfl : (pM 2 1) = .FunctionDef _ _ _ _ _ _ _ _ _ _) (Str.ofString "ShapeError.told") 3 [] Value.none Value.none Value.none (Value.str (Str.ofString "joinedhand.errors") 194) Option.none (Value.ref 44) Value.none 0)) #[]) :: (nat_lit 46,Obj.mk (Value.type "tuple") Option.none (Data.seq #[Value.str (Str.ofString "at") 227,Value.str (Str.ofString "what") 228] 0) #[]) :: (nat_lit 47,Obj.mk (Value.type "dict") Option.none (Data.dict #[DictEntry.mk (PyData.keyHash P0 (Str.ofString "__module__")) (Value.str (Str.ofString "__module__") 203) (Value.str (Str.ofString "joinedhand.errors") 194),DictEntry.mk (PyData.keyHash P0 (Str.ofString "__firstlineno__")) (Value.str (Str.ofString "__firstlineno__") 207) (Value.int (OfNat.ofNat (nat_lit 5)) 206),DictEntry.mk (PyData.keyHash P0 (Str.ofString "__init__")) (Value.str (Str.ofString "__init__") 219) (Value.ref 38),DictEntry.mk (PyData.keyHash P0 (Str.ofString "told")) (Value.str (Str.ofString "told") 226) (Value.ref 45),DictEntry.mk (PyData.keyHash P0 (Str.ofString "__static_attributes__")) (Value.str (Str.ofString "__static_attributes__") 229) (Value.ref 46),DictEntry.mk (PyData.keyHash P0 (Str.ofString "__weakref__")) (Value.str (Str.ofString "__weakref__") 232) (Value.ref 49),DictEntry.mk (PyData.keyHash P0 (Str.ofString "__doc__")) (Value.str (Str.ofString "__doc__") 233) Value.none] 4) #[]) :: (nat_lit 48,Obj.mk (Value.type "type") Option.none (Data.cls (ClassData.mk (Str.ofString "ShapeError") [Value.type "Exception"] [Value.ref 48,Value.type "Exception",Value.type "BaseException",Value.type "object"] 47 (Str.ofString "ShapeError") Bool.true [] [Value.ref 61,Value.ref 73] Bool.false Option.none Bool.false)) #[Option.some (Value.ref 22),Option.none,Option.some (Value.str (Str.ofString "ShapeError") 196),Option.some (Value.str (Str.ofString "ShapeError") 204),Option.some (Value.builtin "Exception.__new__"),Option.some (Value.bool Bool.true)]) :: (nat_lit 49,Obj.mk (Value.type "getset_descriptor") Option.none (Data.fields #[Value.str (Str.ofString "__weakref__") 231,Value.ref 48,Value.builtin "ExceptionGroup.__weakref__",Value.none]) #[]) :: (nat_lit 52,Obj.mk (Value.type "tuple") Option.none (Data.seq #[Value.ref 48] 0) #[]) :: (nat_lit 59,Obj.mk (Value.type "tuple") Option.none (Data.seq #[] 0) #[]) :: (nat_lit 60,Obj.mk (Value.type "dict") Option.none (Data.dict #[DictEntry.mk (PyData.keyHash P0 (Str.ofString "__module__")) (Value.str (Str.ofString "__module__") 245) (Value.str (Str.ofString "joinedhand.errors") 194),DictEntry.mk (PyData.keyHash P0 (Str.ofString "__firstlineno__")) (Value.str (Str.ofString "__firstlineno__") 249) (Value.int (OfNat.ofNat (nat_lit 14)) 248),DictEntry.mk (PyData.keyHash P0 (Str.ofString "__static_attributes__")) (Value.str (Str.ofString "__static_attributes__") 250) (Value.ref 59),DictEntry.mk (PyData.keyHash P0 (Str.ofString "__doc__")) (Value.str (Str.ofString "__doc__") 251) Value.none] 2) #[]) :: (nat_lit 61,Obj.mk (Value.type "type") Option.none (Data.cls (ClassData.mk (Str.ofString "TableFault") [Value.ref 48] [Value.ref 61,Value.ref 48,Value.type "Exception",Value.type "BaseException",Value.type "object"] 60 (Str.ofString "TableFault") Bool.true [] [] Bool.false Option.none Bool.false)) #[Option.some (Value.ref 52),Option.none,Option.some (Value.str (Str.ofString "TableFault") 238),Option.some (Value.str (Str.ofString "TableFault") 246),Option.some (Value.builtin "Exception.__new__"),Option.some (Value.bool Bool.true)]) :: (nat_lit 64,Obj.mk (Value.type "tuple") Option.none (Data.seq #[Value.ref 48] 0) #[]) :: (nat_lit 71,Obj.mk (Value.type "tuple") Option.none (Data.seq #[] 0) #[]) :: (nat_lit 72,Obj.mk (Value.type "dict") Option.none (Data.dict #[DictEntry.mk (PyData.keyHash P0 (Str.ofString "__module__")) (Value.str (Str.ofString "__module__") 261) (Value.str (Str.ofString "joinedhand.errors") 194),DictEntry.mk (PyData.keyHash P0 (Str.ofString "__firstlineno__")) (Value.str (Str.ofString "__firstlineno__") 265) (Value.int (OfNat.ofNat (nat_lit 16)) 264),DictEntry.mk (PyData.keyHash P0 (Str.ofString "__static_attributes__")) (Value.str (Str.ofString "__static_attributes__") 266) (Value.ref 71),DictEntry.mk (PyData.keyHash P0 (Str.ofString "__doc__")) (Value.str (Str.ofString "__doc__") 267) Value.none] 2) #[]) :: (nat_lit 73,Obj.mk (Value.type "type") Option.none (Data.cls (ClassData.mk (Str.ofString "FontFault") [Value.ref 48] [Value.ref 73,Value.ref 48,Value.type "Exception",Value.type "BaseException",Value.type "object"] 72 (Str.ofString "FontFault") Bool.true [] [] Bool.false Option.none Bool.false)) #[Option.some (Value.ref 64),Option.none,Option.some (Value.str (Str.ofString "FontFault") 254),Option.some (Value.str (Str.ofString "FontFault") 262),Option.some (Value.builtin "Exception.__new__"),Option.some (Value.bool Bool.true)]) :: (nat_lit 76,Obj.mk (Value.type "tuple") Option.none (Data.seq #[] 0) #[]) :: (nat_lit 77,Obj.mk Value.none Option.none (Data.fields #[]) #[]) :: (nat_lit 78,Obj.mk (Value.type "tuple") Option.none (Data.seq #[Value.str (Str.ofString "data") 275,Value.str (Str.ofString "at") 276,Value.str (Str.ofString "count") 277] 0) #[]) :: (nat_lit 79,Obj.mk (Value.type "tuple") Option.none (Data.seq #[] 0) #[]) :: (nat_lit 80,Obj.mk Value.none Option.none (Data.func (fnD (rfl : (pS 6) = .FunctionDef _ _ _ _ _ _ _ _ _ _) (Str.ofString "check_room") 0 [] Value.none Value.none Value.none Value.none Option.none Value.none Value.none 0)) #[]) :: (nat_lit 81,Obj.mk (Value.type "code") Option.none (Data.fields #[Value.str (Str.ofString "check_room") 272,Value.str (Str.ofString "check_room") 273,Value.str (Str.ofString "/claim/cut.py") 274,Value.int (OfNat.ofNat (nat_lit 19)) 0,Value.int (OfNat.ofNat (nat_lit 3)) 0,Value.int (OfNat.ofNat (nat_lit 0)) 0,Value.int (OfNat.ofNat (nat_lit 0)) 0,Value.int (OfNat.ofNat (nat_lit 3)) 0,Value.ref 76,Value.bool Bool.true,Value.int (OfNat.ofNat (nat_lit 181)) 0,Value.ref 77,Value.none,Value.ref 78,Value.ref 79,Value.ref 80,Value.int (OfNat.ofNat (nat_lit 278)) 0,Value.int (OfNat.ofNat (nat_lit 19)) 0,Value.str (Str.ofString "/claim/cut.py") 279]) #[]) :: (nat_lit 82,Obj.mk (Value.type "function") Option.none (Data.func (fnD (rfl : (pS 6) = .FunctionDef _ _ _ _ _ _ _ _ _ _) (Str.ofString "check_room") 3 [] Value.none Value.none Value.none (Value.str (Str.ofString "joinedhand.octets") 270) Option.none (Value.ref 81) Value.none 0)) #[]) :: (nat_lit 83,Obj.mk (Value.type "tuple") Option.none (Data.seq #[] 0) #[]) :: (nat_lit 84,Obj.mk Value.none Option.none (Data.fields #[]) #[]) :: (nat_lit 85,Obj.mk (Value.type "tuple") Option.none (Data.seq #[Value.str (Str.ofString "data") 284,Value.str (Str.ofString "at") 285,Value.str (Str.ofString "count") 286,Value.str (Str.ofString "total") 287,Value.str (Str.ofString "code") 288] 0) #[]) :: (nat_lit 86,Obj.mk (Value.type "tuple") Option.none (Data.seq #[] 0) #[]) :: (nat_lit 87,Obj.mk Value.none Option.none (Data.func (fnD (rfl : (pS 7) = .FunctionDef _ _ _ _ _ _ _ _ _ _) (Str.ofString "number_at") 0 [] Value.none Value.none Value.none Value.none Option.none Value.none Value.none 0)) #[]) :: (nat_lit 88,Obj.mk (Value.type "code") Option.none (Data.fields #[Value.str (Str.ofString "number_at") 281,Value.str (Str.ofString "number_at") 282,Value.str (Str.ofString "/claim/cut.py") 283,Value.int (OfNat.ofNat (nat_lit 22)) 0,Value.int (OfNat.ofNat (nat_lit 3)) 0,Value.int (OfNat.ofNat (nat_lit 0)) 0,Value.int (OfNat.ofNat (nat_lit 0)) 0,Value.int (OfNat.ofNat (nat_lit 3)) 0,Value.ref 83,Value.bool Bool.true,Value.int (OfNat.ofNat (nat_lit 181)) 0,Value.ref 84,Value.none,Value.ref 85,Value.ref 86,Value.ref 87,Value.int (OfNat.ofNat (nat_lit 289)) 0,Value.int (OfNat.ofNat (nat_lit 22)) 0,Value.str (Str.ofString "/claim/cut.py") 290]) #[]) :: (nat_lit 89,Obj.mk (Value.type "function") Option.none (Data.func (fnD (rfl : (pS 7) = .FunctionDef _ _ _ _ _ _ _ _ _ _) (Str.ofString "number_at") 3 [] Value.none Value.none Value.none (Value.str (Str.ofString "joinedhand.octets") 270) Option.none (Value.ref 88) Value.none 0)) #[]) :: (nat_lit 90,Obj.mk (Value.type "tuple") Option.none (Data.seq #[] 0) #[]) :: (nat_lit 91,Obj.mk Value.none Option.none (Data.fields #[]) #[]) :: (nat_lit 92,Obj.mk (Value.type "tuple") Option.none (Data.seq #[Value.str (Str.ofString "data") 295,Value.str (Str.ofString "at") 296] 0) #[]) :: (nat_lit 93,Obj.mk (Value.type "tuple") Option.none (Data.seq #[] 0) #[]) :: (nat_lit 94,Obj.mk Value.none Option.none (Data.func (fnD (rfl : (pS 8) = .FunctionDef _ _ _ _ _ _ _ _ _ _) (Str.ofString "u32_at") 0 [] Value.none Value.none Value.none Value.none Option.none Value.none Value.none 0)) #[]) :: (nat_lit 95,Obj.mk (Value.type "code") Option.none (Data.fields #[Value.str (Str.ofString "u32_at") 292,Value.str (Str.ofString "u32_at") 293,Value.str (Str.ofString "/claim/cut.py") 294,Value.int (OfNat.ofNat (nat_lit 28)) 0,Value.int (OfNat.ofNat (nat_lit 2)) 0,Value.int (OfNat.ofNat (nat_lit 0)) 0,Value.int (OfNat.ofNat (nat_lit 0)) 0,Value.int (OfNat.ofNat (nat_lit 3)) 0,Value.ref 90,Value.bool Bool.true,Value.int (OfNat.ofNat (nat_lit 181)) 0,Value.ref 91,Value.none,Value.ref 92,Value.ref 93,Value.ref 94,Value.int (OfNat.ofNat (nat_lit 297)) 0,Value.int (OfNat.ofNat (nat_lit 28)) 0,Value.str (Str.ofString "/claim/cut.py") 298]) #[]) :: (nat_lit 96,Obj.mk (Value.type "function") Option.none (Data.func (fnD (rfl : (pS 8) = .FunctionDef _ _ _ _ _ _ _ _ _ _) (Str.ofString "u32_at") 3 [] Value.none Value.none Value.none (Value.str (Str.ofString "joinedhand.octets") 270) Option.none (Value.ref 95) Value.none 0)) #[]) :: (nat_lit 104,Obj.mk (Value.type "tuple") Option.none (Data.seq #[Value.int (OfNat.ofNat (nat_lit 0)) 312] 0) #[]) :: (nat_lit 105,Obj.mk (Value.type "tuple") Option.none (Data.seq #[] 0) #[]) :: (nat_lit 106,Obj.mk Value.none Option.none (Data.fields #[]) #[]) :: (nat_lit 107,Obj.mk (Value.type "tuple") Option.none (Data.seq #[Value.str (Str.ofString "self") 316,Value.str (Str.ofString "data") 317,Value.str (Str.ofString "at") 318] 0) #[]) :: (nat_lit 108,Obj.mk (Value.type "tuple") Option.none (Data.seq #[] 0) #[]) :: (nat_lit 109,Obj.mk Value.none Option.none (Data.func (fnD (rfl : (pM 9 0) = .FunctionDef _ _ _ _ _ _ _ _ _ _) (Str.ofString "OctetsIn.__init__") 0 [] Value.none Value.none Value.none Value.none Option.none Value.none Value.none 0)) #[]) :: (nat_lit 110,Obj.mk (Value.type "code") Option.none (Data.fields #[Value.str (Str.ofString "__init__") 313,Value.str (Str.ofString "OctetsIn.__init__") 314,Value.str (Str.ofString "/claim/cut.py") 315,Value.int (OfNat.ofNat (nat_lit 32)) 0,Value.int (OfNat.ofNat (nat_lit 3)) 0,Value.int (OfNat.ofNat (nat_lit 0)) 0,Value.int (OfNat.ofNat (nat_lit 0)) 0,Value.int (OfNat.ofNat (nat_lit 3)) 0,Value.ref 105,Value.bool Bool.true,Value.int (OfNat.ofNat (nat_lit 181)) 0,Value.ref 106,Value.none,Value.ref 107,Value.ref 108,Value.ref 109,Value.int (OfNat.ofNat (nat_lit 319)) 0,Value.int (OfNat.ofNat (nat_lit 32)) 0,Value.str (Str.ofString "/claim/cut.py") 320]) #[]) :: (nat_lit 111,Obj.mk (Value.type "function") Option.none (Data.func (fnD (rfl : (pM 9 0) = .FunctionDef _ _ _ _ _ _ _ _ _ _) (Str.ofString "OctetsIn.__init__") 3 [] (Value.ref 104) Value.none Value.none (Value.str (Str.ofString "joinedhand.octets") 270) Option.none (Value.ref 110) Value.none 0)) #[]) :: (nat_lit 112,Obj.mk (Value.type "tuple") Option.none (Data.seq #[] 0) #[]) :: (nat_lit 113,Obj.mk Value.none Option.none (Data.fields #[]) #[]) :: (nat_lit 114,Obj.mk (Value.type "tuple") Option.none (Data.seq #[Value.str (Str.ofString "self") 325,Value.str (Str.ofString "count") 326] 0) #[]) :: (nat_lit 115,Obj.mk (Value.type "tuple") Option.none (Data.seq #[] 0) #[]) :: (nat_lit 116,Obj.mk Value.none Option.none (Data.func (fnD (rfl : (pM 9 1) = .FunctionDef _ _ _ _ _ _ _ _ _ _) (Str.ofString "OctetsIn.need") 0 [] Value.none Value.none Value.none Value.none Option.none Value.none Value.none 0)) #[]) :: (nat_lit 117,Obj.mk (Value.type "code") Option.none (Data.fields #[Value.str (Str.ofString "need") 322,Value.str (Str.ofString "OctetsIn.need") 323,Value.str (Str.ofString "/claim/cut.py") 324,Value.int (OfNat.ofNat (nat_lit 36)) 0,Value.int (OfNat.ofNat (nat_lit 2)) 0,Value.int (OfNat.ofNat (nat_lit 0)) 0,Value.int (OfNat.ofNat (nat_lit 0)) 0,Value.int (OfNat.ofNat (nat_lit 3)) 0,Value.ref 112,Value.bool Bool.true,Value.int (OfNat.ofNat (nat_lit 181)) 0,Value.ref 113,Value.none,Value.ref 114,Value.ref 115,Value.ref 116,Value.int (OfNat.ofNat (nat_lit 327)) 0,Value.int (OfNat.ofNat (nat_lit 36)) 0,Value.str (Str.ofString "/claim/cut.py") 328]) #[]) :: (nat_lit 118,Obj.mk (Value.type "function") Option.none (Data.func (fnD (rfl : (pM 9 1) = .FunctionDef _ _ _ _ _ _ _ _ _ _) (Str.ofString "OctetsIn.need") 3 [] Value.none Value.none Value.none (Value.str (Str.ofString "joinedhand.octets") 270) Option.none (Value.ref 117) Value.none 0)) #[]) :: (nat_lit 119,Obj.mk (Value.type "tuple") Option.none (Data.seq #[] 0) #[]) :: (nat_lit 120,Obj.mk Value.none Option.none (Data.fields #[]) #[]) :: (nat_lit 121,Obj.mk (Value.type "tuple") Option.none (Data.seq #[Value.str (Str.ofString "self") 333,Value.str (Str.ofString "count") 334,Value.str (Str.ofString "found") 335] 0) #[]) :: (nat_lit 122,Obj.mk (Value.type "tuple") Option.none (Data.seq #[] 0) #[]) :: (nat_lit 123,Obj.mk Value.none Option.none (Data.func (fnD (rfl : (pM 9 2) = .FunctionDef _ _ _ _ _ _ _ _ _ _) (Str.ofString "OctetsIn.number") 0 [] Value.none Value.none Value.none Value.none Option.none Value.none Value.none 0)) #[]) :: (nat_lit 124,Obj.mk (Value.type "code") Option.none (Data.fields #[Value.str (Str.ofString "number") 330,Value.str (Str.ofString "OctetsIn.number") 331,Value.str (Str.ofString "/claim/cut.py") 332,Value.int (OfNat.ofNat (nat_lit 39)) 0,Value.int (OfNat.ofNat (nat_lit 2)) 0,Value.int (OfNat.ofNat (nat_lit 0)) 0,Value.int (OfNat.ofNat (nat_lit 0)) 0,Value.int (OfNat.ofNat (nat_lit 3)) 0,Value.ref 119,Value.bool Bool.true,Value.int (OfNat.ofNat (nat_lit 181)) 0,Value.ref 120,Value.none,Value.ref 121,Value.ref 122,Value.ref 123,Value.int (OfNat.ofNat (nat_lit 336)) 0,Value.int (OfNat.ofNat (nat_lit 39)) 0,Value.str (Str.ofString "/claim/cut.py") 337]) #[]) :: (nat_lit 125,Obj.mk (Value.type "function") Option.none (Data.func (fnD (rfl : (pM 9 2) = .FunctionDef _ _ _ _ _ _ _ _ _ _) (Str.ofString "OctetsIn.number") 3 [] Value.none Value.none Value.none (Value.str (Str.ofString "joinedhand.octets") 270) Option.none (Value.ref 124) Value.none 0)) #[]) :: (nat_lit 126,Obj.mk (Value.type "tuple") Option.none (Data.seq #[] 0) #[]) :: (nat_lit 127,Obj.mk Value.none Option.none (Data.fields #[]) #[]) :: (nat_lit 128,Obj.mk (Value.type "tuple") Option.none (Data.seq #[Value.str (Str.ofString "self") 342] 0) #[]) :: (nat_lit 129,Obj.mk (Value.type "tuple") Option.none (Data.seq #[] 0) #[]) :: (nat_lit 130,Obj.mk Value.none Option.none (Data.func (fnD (rfl : (pM 9 3) = .FunctionDef _ _ _ _ _ _ _ _ _ _) (Str.ofString "OctetsIn.u8") 0 [] Value.none Value.none Value.none Value.none Option.none Value.none Value.none 0)) #[]) :: (nat_lit 131,Obj.mk (Value.type "code") Option.none (Data.fields #[Value.str (Str.ofString "u8") 339,Value.str (Str.ofString "OctetsIn.u8") 340,Value.str (Str.ofString "/claim/cut.py") 341,Value.int (OfNat.ofNat (nat_lit 44)) 0,Value.int (OfNat.ofNat (nat_lit 1)) 0,Value.int (OfNat.ofNat (nat_lit 0)) 0,Value.int (OfNat.ofNat (nat_lit 0)) 0,Value.int (OfNat.ofNat (nat_lit 3)) 0,Value.ref 126,Value.bool Bool.true,Value.int (OfNat.ofNat (nat_lit 181)) 0,Value.ref 127,Value.none,Value.ref 128,Value.ref 129,Value.ref 130,Value.int (OfNat.ofNat (nat_lit 343)) 0,Value.int (OfNat.ofNat (nat_lit 44)) 0,Value.str (Str.ofString "/claim/cut.py") 344]) #[]) :: (nat_lit 132,Obj.mk (Value.type "function") Option.none (Data.func (fnD (rfl : (pM 9 3) = .FunctionDef _ _ _ _ _ _ _ _ _ _) (Str.ofString "OctetsIn.u8") 3 [] Value.none Value.none Value.none (Value.str (Str.ofString "joinedhand.octets") 270) Option.none (Value.ref 131) Value.none 0)) #[]) :: (nat_lit 133,Obj.mk (Value.type "tuple") Option.none (Data.seq #[] 0) #[]) :: (nat_lit 134,Obj.mk Value.none Option.none (Data.fields #[]) #[]) :: (nat_lit 135,Obj.mk (Value.type "tuple") Option.none (Data.seq #[Value.str (Str.ofString "self") 349] 0) #[]) :: (nat_lit 136,Obj.mk (Value.type "tuple") Option.none (Data.seq #[] 0) #[]) :: (nat_lit 137,Obj.mk Value.none Option.none (Data.func (fnD (rfl : (pM 9 4) = .FunctionDef _ _ _ _ _ _ _ _ _ _) (Str.ofString "OctetsIn.u16") 0 [] Value.none Value.none Value.none Value.none Option.none Value.none Value.none 0)) #[]) :: (nat_lit 138,Obj.mk (Value.type "code") Option.none (Data.fields #[Value.str (Str.ofString "u16") 346,Value.str (Str.ofString "OctetsIn.u16") 347,Value.str (Str.ofString "/claim/cut.py") 348,Value.int (OfNat.ofNat (nat_lit 47)) 0,Value.int (OfNat.ofNat (nat_lit 1)) 0,Value.int (OfNat.ofNat (nat_lit 0)) 0,Value.int (OfNat.ofNat (nat_lit 0)) 0,Value.int (OfNat.ofNat (nat_lit 3)) 0,Value.ref 133,Value.bool Bool.true,Value.int (OfNat.ofNat (nat_lit 181)) 0,Value.ref 134,Value.none,Value.ref 135,Value.ref 136,Value.ref 137,Value.int (OfNat.ofNat (nat_lit 350)) 0,Value.int (OfNat.ofNat (nat_lit 47)) 0,Value.str (Str.ofString "/claim/cut.py") 351]) #[]) :: (nat_lit 139,Obj.mk (Value.type "function") Option.none (Data.func (fnD (rfl : (pM 9 4) = .FunctionDef _ _ _ _ _ _ _ _ _ _) (Str.ofString "OctetsIn.u16") 3 [] Value.none Value.none Value.none (Value.str (Str.ofString "joinedhand.octets") 270) Option.none (Value.ref 138) Value.none 0)) #[]) :: (nat_lit 140,Obj.mk (Value.type "tuple") Option.none (Data.seq #[] 0) #[]) :: (nat_lit 141,Obj.mk Value.none Option.none (Data.fields #[]) #[]) :: (nat_lit 142,Obj.mk (Value.type "tuple") Option.none (Data.seq #[Value.str (Str.ofString "self") 356] 0) #[]) :: (nat_lit 143,Obj.mk (Value.type "tuple") Option.none (Data.seq #[] 0) #[]) :: (nat_lit 144,Obj.mk Value.none Option.none (Data.func (fnD (rfl : (pM 9 5) = .FunctionDef _ _ _ _ _ _ _ _ _ _) (Str.ofString "OctetsIn.i16") 0 [] Value.none Value.none Value.none Value.none Option.none Value.none Value.none 0)) #[]) :: (nat_lit 145,Obj.mk (Value.type "code") Option.none (Data.fields #[Value.str (Str.ofString "i16") 353,Value.str (Str.ofString "OctetsIn.i16") 354,Value.str (Str.ofString "/claim/cut.py") 355,Value.int (OfNat.ofNat (nat_lit 50)) 0,Value.int (OfNat.ofNat (nat_lit 1)) 0,Value.int (OfNat.ofNat (nat_lit 0)) 0,Value.int (OfNat.ofNat (nat_lit 0)) 0,Value.int (OfNat.ofNat (nat_lit 3)) 0,Value.ref 140,Value.bool Bool.true,Value.int (OfNat.ofNat (nat_lit 181)) 0,Value.ref 141,Value.none,Value.ref 142,Value.ref 143,Value.ref 144,Value.int (OfNat.ofNat (nat_lit 357)) 0,Value.int (OfNat.ofNat (nat_lit 50)) 0,Value.str (Str.ofString "/claim/cut.py") 358]) #[]) :: (nat_lit 146,Obj.mk (Value.type "function") Option.none (Data.func (fnD (rfl : (pM 9 5) = .FunctionDef _ _ _ _ _ _ _ _ _ _) (Str.ofString "OctetsIn.i16") 3 [] Value.none Value.none Value.none (Value.str (Str.ofString "joinedhand.octets") 270) Option.none (Value.ref 145) Value.none 0)) #[]) :: (nat_lit 147,Obj.mk (Value.type "tuple") Option.none (Data.seq #[] 0) #[]) :: (nat_lit 148,Obj.mk Value.none Option.none (Data.fields #[]) #[]) :: (nat_lit 149,Obj.mk (Value.type "tuple") Option.none (Data.seq #[Value.str (Str.ofString "self") 363] 0) #[]) :: (nat_lit 150,Obj.mk (Value.type "tuple") Option.none (Data.seq #[] 0) #[]) :: (nat_lit 151,Obj.mk Value.none Option.none (Data.func (fnD (rfl : (pM 9 6) = .FunctionDef _ _ _ _ _ _ _ _ _ _) (Str.ofString "OctetsIn.u24") 0 [] Value.none Value.none Value.none Value.none Option.none Value.none Value.none 0)) #[]) :: (nat_lit 152,Obj.mk (Value.type "code") Option.none (Data.fields #[Value.str (Str.ofString "u24") 360,Value.str (Str.ofString "OctetsIn.u24") 361,Value.str (Str.ofString "/claim/cut.py") 362,Value.int (OfNat.ofNat (nat_lit 53)) 0,Value.int (OfNat.ofNat (nat_lit 1)) 0,Value.int (OfNat.ofNat (nat_lit 0)) 0,Value.int (OfNat.ofNat (nat_lit 0)) 0,Value.int (OfNat.ofNat (nat_lit 3)) 0,Value.ref 147,Value.bool Bool.true,Value.int (OfNat.ofNat (nat_lit 181)) 0,Value.ref 148,Value.none,Value.ref 149,Value.ref 150,Value.ref 151,Value.int (OfNat.ofNat (nat_lit 364)) 0,Value.int (OfNat.ofNat (nat_lit 53)) 0,Value.str (Str.ofString "/claim/cut.py") 365]) #[]) :: (nat_lit 153,Obj.mk (Value.type "function") Option.none (Data.func (fnD (rfl : (pM 9 6) = .FunctionDef _ _ _ _ _ _ _ _ _ _) (Str.ofString "OctetsIn.u24") 3 [] Value.none Value.none Value.none (Value.str (Str.ofString "joinedhand.octets") 270) Option.none (Value.ref 152) Value.none 0)) #[]) :: (nat_lit 154,Obj.mk (Value.type "tuple") Option.none (Data.seq #[] 0) #[]) :: (nat_lit 155,Obj.mk Value.none Option.none (Data.fields #[]) #[]) :: (nat_lit 156,Obj.mk (Value.type "tuple") Option.none (Data.seq #[Value.str (Str.ofString "self") 370] 0) #[]) :: (nat_lit 157,Obj.mk (Value.type "tuple") Option.none (Data.seq #[] 0) #[]) :: (nat_lit 158,Obj.mk Value.none Option.none (Data.func (fnD (rfl : (pM 9 7) = .FunctionDef _ _ _ _ _ _ _ _ _ _) (Str.ofString "OctetsIn.u32") 0 [] Value.none Value.none Value.none Value.none Option.none Value.none Value.none 0)) #[]) :: (nat_lit 159,Obj.mk (Value.type "code") Option.none (Data.fields #[Value.str (Str.ofString "u32") 367,Value.str (Str.ofString "OctetsIn.u32") 368,Value.str (Str.ofString "/claim/cut.py") 369,Value.int (OfNat.ofNat (nat_lit 56)) 0,Value.int (OfNat.ofNat (nat_lit 1)) 0,Value.int (OfNat.ofNat (nat_lit 0)) 0,Value.int (OfNat.ofNat (nat_lit 0)) 0,Value.int (OfNat.ofNat (nat_lit 3)) 0,Value.ref 154,Value.bool Bool.true,Value.int (OfNat.ofNat (nat_lit 181)) 0,Value.ref 155,Value.none,Value.ref 156,Value.ref 157,Value.ref 158,Value.int (OfNat.ofNat (nat_lit 371)) 0,Value.int (OfNat.ofNat (nat_lit 56)) 0,Value.str (Str.ofString "/claim/cut.py") 372]) #[]) :: (nat_lit 160,Obj.mk (Value.type "function") Option.none (Data.func (fnD (rfl : (pM 9 7) = .FunctionDef _ _ _ _ _ _ _ _ _ _) (Str.ofString "OctetsIn.u32") 3 [] Value.none Value.none Value.none (Value.str (Str.ofString "joinedhand.octets") 270) Option.none (Value.ref 159) Value.none 0)) #[]) :: (nat_lit 161,Obj.mk (Value.type "tuple") Option.none (Data.seq #[] 0) #[]) :: (nat_lit 162,Obj.mk Value.none Option.none (Data.fields #[]) #[]) :: (nat_lit 163,Obj.mk Value.none Option.none (Data.func (fnD (rfl : (pM 9 8) = .FunctionDef _ _ _ _ _ _ _ _ _ _) (Str.ofString "OctetsIn.tag") 0 [] Value.none Value.none Value.none Value.none Option.none Value.none Value.none 0)) #[]) :: (nat_lit 164,Obj.mk (Value.type "code") Option.none (Data.fields #[Value.str (Str.ofString "tag") 374,Value.str (Str.ofString "OctetsIn.tag") 375,Value.str (Str.ofString "/claim/cut.py") 376,Value.int (OfNat.ofNat (nat_lit 59)) 0,Value.int (OfNat.ofNat (nat_lit 1)) 0,Value.int (OfNat.ofNat (nat_lit 0)) 0,Value.int (OfNat.ofNat (nat_lit 0)) 0,Value.int (OfNat.ofNat (nat_lit 3)) 0,Value.ref 161,Value.bool Bool.true,Value.int (OfNat.ofNat (nat_lit 181)) 0,Value.ref 162,Value.none,Value.none,Value.none,Value.ref 163,Value.int (OfNat.ofNat (nat_lit 377)) 0,Value.int (OfNat.ofNat (nat_lit 59)) 0,Value.str (Str.ofString "/claim/cut.py") 378]) #[]) :: (nat_lit 165,Obj.mk (Value.type "function") Option.none (Data.func (fnD (rfl : (pM 9 8) = .FunctionDef _ _ _ _ _ _ _ _ _ _) (Str.ofString "OctetsIn.tag") 3 [] Value.none Value.none Value.none (Value.str (Str.ofString "joinedhand.octets") 270) Option.none (Value.ref 164) Value.none 0)) #[]) :: (nat_lit 166,Obj.mk (Value.type "tuple") Option.none (Data.seq #[] 0) #[]) :: (nat_lit 167,Obj.mk Value.none Option.none (Data.fields #[]) #[]) :: (nat_lit 168,Obj.mk Value.none Option.none (Data.func (fnD (rfl : (pM 9 9) = .FunctionDef _ _ _ _ _ _ _ _ _ _) (Str.ofString "OctetsIn.rows") 0 [] Value.none Value.none Value.none Value.none Option.none Value.none Value.none 0)) #[]) :: (nat_lit 169,Obj.mk (Value.type "code") Option.none (Data.fields #[Value.str (Str.ofString "rows") 380,Value.str (Str.ofString "OctetsIn.rows") 381,Value.str (Str.ofString "/claim/cut.py") 382,Value.int (OfNat.ofNat (nat_lit 65)) 0,Value.int (OfNat.ofNat (nat_lit 2)) 0,Value.int (OfNat.ofNat (nat_lit 0)) 0,Value.int (OfNat.ofNat (nat_lit 0)) 0,Value.int (OfNat.ofNat (nat_lit 3)) 0,Value.ref 166,Value.bool Bool.true,Value.int (OfNat.ofNat (nat_lit 181)) 0,Value.ref 167,Value.none,Value.none,Value.none,Value.ref 168,Value.int (OfNat.ofNat (nat_lit 383)) 0,Value.int (OfNat.ofNat (nat_lit 65)) 0,Value.str (Str.ofString "/claim/cut.py") 384]) #[]) :: (nat_lit 170,Obj.mk (Value.type "function") Option.none (Data.func (fnD (rfl : (pM 9 9) = .FunctionDef _ _ _ _ _ _ _ _ _ _) (Str.ofString "OctetsIn.rows") 3 [] Value.none Value.none Value.none (Value.str (Str.ofString "joinedhand.octets") 270) Option.none (Value.ref 169) Value.none 0)) #[]) :: (nat_lit 171,Obj.mk (Value.type "tuple") Option.none (Data.seq #[] 0) #[]) :: (nat_lit 172,Obj.mk Value.none Option.none (Data.fields #[]) #[]) :: (nat_lit 173,Obj.mk (Value.type "tuple") Option.none (Data.seq #[Value.str (Str.ofString "self") 389,Value.str (Str.ofString "offset") 390] 0) #[]) :: (nat_lit 174,Obj.mk (Value.type "tuple") Option.none (Data.seq #[] 0) #[]) :: (nat_lit 175,Obj.mk Value.none Option.none (Data.func (fnD (rfl : (pM 9 10) = .FunctionDef _ _ _ _ _ _ _ _ _ _) (Str.ofString "OctetsIn.here") 0 [] Value.none Value.none Value.none Value.none Option.none Value.none Value.none 0)) #[]) :: (nat_lit 176,Obj.mk (Value.type "code") Option.none (Data.fields #[Value.str (Str.ofString "here") 386,Value.str (Str.ofString "OctetsIn.here") 387,Value.str (Str.ofString "/claim/cut.py") 388,Value.int (OfNat.ofNat (nat_lit 69)) 0,Value.int (OfNat.ofNat (nat_lit 2)) 0,Value.int (OfNat.ofNat (nat_lit 0)) 0,Value.int (OfNat.ofNat (nat_lit 0)) 0,Value.int (OfNat.ofNat (nat_lit 3)) 0,Value.ref 171,Value.bool Bool.true,Value.int (OfNat.ofNat (nat_lit 181)) 0,Value.ref 172,Value.none,Value.ref 173,Value.ref 174,Value.ref 175,Value.int (OfNat.ofNat (nat_lit 391)) 0,Value.int (OfNat.ofNat (nat_lit 69)) 0,Value.str (Str.ofString "/claim/cut.py") 392]) #[]) :: (nat_lit 177,Obj.mk (Value.type "function") Option.none (Data.func (fnD (rfl : (pM 9 10) = .FunctionDef _ _ _ _ _ _ _ _ _ _) (Str.ofString "OctetsIn.here") 3 [] Value.none Value.none Value.none (Value.str (Str.ofString "joinedhand.octets") 270) Option.none (Value.ref 176) Value.none 0)) #[]) :: (nat_lit 178,Obj.mk (Value.type "tuple") Option.none (Data.seq #[Value.str (Str.ofString "at") 394,Value.str (Str.ofString "data") 395] 0) #[]) :: (nat_lit 179,Obj.mk (Value.type "dict") Option.none (Data.dict #[DictEntry.mk (PyData.keyHash P0 (Str.ofString "__module__")) (Value.str (Str.ofString "__module__") 307) (Value.str (Str.ofString "joinedhand.octets") 270),DictEntry.mk (PyData.keyHash P0 (Str.ofString "__firstlineno__")) (Value.str (Str.ofString "__firstlineno__") 311) (Value.int (OfNat.ofNat (nat_lit 30)) 310),DictEntry.mk (PyData.keyHash P0 (Str.ofString "__init__")) (Value.str (Str.ofString "__init__") 321) (Value.ref 111),DictEntry.mk (PyData.keyHash P0 (Str.ofString "need")) (Value.str (Str.ofString "need") 329) (Value.ref 118),DictEntry.mk (PyData.keyHash P0 (Str.ofString "number")) (Value.str (Str.ofString "number") 338) (Value.ref 125),DictEntry.mk (PyData.keyHash P0 (Str.ofString "u8")) (Value.str (Str.ofString "u8") 345) (Value.ref 132),DictEntry.mk (PyData.keyHash P0 (Str.ofString "u16")) (Value.str (Str.ofString "u16") 352) (Value.ref 139),DictEntry.mk (PyData.keyHash P0 (Str.ofString "i16")) (Value.str (Str.ofString "i16") 359) (Value.ref 146),DictEntry.mk (PyData.keyHash P0 (Str.ofString "u24")) (Value.str (Str.ofString "u24") 366) (Value.ref 153),DictEntry.mk (PyData.keyHash P0 (Str.ofString "u32")) (Value.str (Str.ofString "u32") 373) (Value.ref 160),DictEntry.mk (PyData.keyHash P0 (Str.ofString "tag")) (Value.str (Str.ofString "tag") 379) (Value.ref 165),DictEntry.mk (PyData.keyHash P0 (Str.ofString "rows")) (Value.str (Str.ofString "rows") 385) (Value.ref 170),DictEntry.mk (PyData.keyHash P0 (Str.ofString "here")) (Value.str (Str.ofString "here") 393) (Value.ref 177),DictEntry.mk (PyData.keyHash P0 (Str.ofString "__static_attributes__")) (Value.str (Str.ofString "__static_attributes__") 396) (Value.ref 178),DictEntry.mk (PyData.keyHash P0 (Str.ofString "__dict__")) (Value.str (Str.ofString "__dict__") 398) (Value.ref 181),DictEntry.mk (PyData.keyHash P0 (Str.ofString "__weakref__")) (Value.str (Str.ofString "__weakref__") 400) (Value.ref 182),DictEntry.mk (PyData.keyHash P0 (Str.ofString "__doc__")) (Value.str (Str.ofString "__doc__") 401) Value.none] 4) #[]) :: (nat_lit 180,Obj.mk (Value.type "type") Option.none (Data.cls (ClassData.mk (Str.ofString "OctetsIn") [Value.type "object"] [Value.ref 180,Value.type "object"] 179 (Str.ofString "OctetsIn") Bool.true [] [] Bool.false Option.none Bool.false)) #[Option.none,Option.none,Option.some (Value.str (Str.ofString "OctetsIn") 300),Option.some (Value.str (Str.ofString "OctetsIn") 308),Option.some (Value.builtin "object.__new__"),Option.some (Value.bool Bool.true)]) :: (nat_lit 181,Obj.mk (Value.type "getset_descriptor") Option.none (Data.fields #[Value.str (Str.ofString "__dict__") 397,Value.ref 180,Value.builtin "function.__dict__",Value.builtin "function.__dict__#set"]) #[]) :: (nat_lit 182,Obj.mk (Value.type "getset_descriptor") Option.none (Data.fields #[Value.str (Str.ofString "__weakref__") 399,Value.ref 180,Value.builtin "ExceptionGroup.__weakref__",Value.none]) #[]) :: (nat_lit 185,Obj.mk (Value.type "tuple") Option.none (Data.seq #[Value.int (OfNat.ofNat (nat_lit 65536)) 406,Value.int (OfNat.ofNat (nat_lit 1330926671)) 408,Value.int (OfNat.ofNat (nat_lit 1953658213)) 410] 0) #[]) :: (nat_lit 193,Obj.mk (Value.type "tuple") Option.none (Data.seq #[] 0) #[]) :: (nat_lit 194,Obj.mk Value.none Option.none (Data.fields #[]) #[]) :: (nat_lit 195,Obj.mk (Value.type "tuple") Option.none (Data.seq #[Value.str (Str.ofString "self") 436,Value.str (Str.ofString "tag") 437,Value.str (Str.ofString "total") 438,Value.str (Str.ofString "begin") 439,Value.str (Str.ofString "length") 440,Value.str (Str.ofString "where") 441] 0) #[]) :: (nat_lit 196,Obj.mk (Value.type "tuple") Option.none (Data.seq #[] 0) #[]) :: (nat_lit 197,Obj.mk Value.none Option.none (Data.func (fnD (rfl : (pM 19 0) = .FunctionDef _ _ _ _ _ _ _ _ _ _) (Str.ofString "Record.__init__") 0 [] Value.none Value.none Value.none Value.none Option.none Value.none Value.none 0)) #[]) :: (nat_lit 198,Obj.mk (Value.type "code") Option.none (Data.fields #[Value.str (Str.ofString "__init__") 433,Value.str (Str.ofString "Record.__init__") 434,Value.str (Str.ofString "/claim/cut.py") 435,Value.int (OfNat.ofNat (nat_lit 82)) 0,Value.int (OfNat.ofNat (nat_lit 6)) 0,Value.int (OfNat.ofNat (nat_lit 0)) 0,Value.int (OfNat.ofNat (nat_lit 0)) 0,Value.int (OfNat.ofNat (nat_lit 3)) 0,Value.ref 193,Value.bool Bool.true,Value.int (OfNat.ofNat (nat_lit 181)) 0,Value.ref 194,Value.none,Value.ref 195,Value.ref 196,Value.ref 197,Value.int (OfNat.ofNat (nat_lit 442)) 0,Value.int (OfNat.ofNat (nat_lit 82)) 0,Value.str (Str.ofString "/claim/cut.py") 443]) #[]) :: (nat_lit 199,Obj.mk (Value.type "function") Option.none (Data.func (fnD (rfl : (pM 19 0) = .FunctionDef _ _ _ _ _ _ _ _ _ _) (Str.ofString "Record.__init__") 3 [] Value.none Value.none Value.none (Value.str (Str.ofString "joinedhand.sfnt") 404) Option.none (Value.ref 198) Value.none 0)) #[]) :: (nat_lit 200,Obj.mk (Value.type "tuple") Option.none (Data.seq #[] 0) #[]) :: (nat_lit 201,Obj.mk Value.none Option.none (Data.fields #[]) #[]) :: (nat_lit 202,Obj.mk (Value.type "tuple") Option.none (Data.seq #[Value.str (Str.ofString "self") 448] 0) #[]) :: (nat_lit 203,Obj.mk (Value.type "tuple") Option.none (Data.seq #[] 0) #[]) :: (nat_lit 204,Obj.mk Value.none Option.none (Data.func (fnD (rfl : (pM 19 1) = .FunctionDef _ _ _ _ _ _ _ _ _ _) (Str.ofString "Record.end") 0 [] Value.none Value.none Value.none Value.none Option.none Value.none Value.none 0)) #[]) :: (nat_lit 205,Obj.mk (Value.type "code") Option.none (Data.fields #[Value.str (Str.ofString "end") 445,Value.str (Str.ofString "Record.end") 446,Value.str (Str.ofString "/claim/cut.py") 447,Value.int (OfNat.ofNat (nat_lit 89)) 0,Value.int (OfNat.ofNat (nat_lit 1)) 0,Value.int (OfNat.ofNat (nat_lit 0)) 0,Value.int (OfNat.ofNat (nat_lit 0)) 0,Value.int (OfNat.ofNat (nat_lit 3)) 0,Value.ref 200,Value.bool Bool.true,Value.int (OfNat.ofNat (nat_lit 181)) 0,Value.ref 201,Value.none,Value.ref 202,Value.ref 203,Value.ref 204,Value.int (OfNat.ofNat (nat_lit 449)) 0,Value.int (OfNat.ofNat (nat_lit 89)) 0,Value.str (Str.ofString "/claim/cut.py") 450]) #[]) :: (nat_lit 206,Obj.mk (Value.type "function") Option.none (Data.func (fnD (rfl : (pM 19 1) = .FunctionDef _ _ _ _ _ _ _ _ _ _) (Str.ofString "Record.end") 3 [] Value.none Value.none Value.none (Value.str (Str.ofString "joinedhand.sfnt") 404) Option.none (Value.ref 205) Value.none 0)) #[]) :: (nat_lit 207,Obj.mk (Value.type "tuple") Option.none (Data.seq #[Value.str (Str.ofString "begin") 452,Value.str (Str.ofString "length") 453,Value.str (Str.ofString "tag") 454,Value.str (Str.ofString "total") 455,Value.str (Str.ofString "where") 456] 0) #[]) :: (nat_lit 208,Obj.mk (Value.type "dict") Option.none (Data.dict #[DictEntry.mk (PyData.keyHash P0 (Str.ofString "__module__")) (Value.str (Str.ofString "__module__") 428) (Value.str (Str.ofString "joinedhand.sfnt") 404),DictEntry.mk (PyData.keyHash P0 (Str.ofString "__firstlineno__")) (Value.str (Str.ofString "__firstlineno__") 432) (Value.int (OfNat.ofNat (nat_lit 80)) 431),DictEntry.mk (PyData.keyHash P0 (Str.ofString "__init__")) (Value.str (Str.ofString "__init__") 444) (Value.ref 199),DictEntry.mk (PyData.keyHash P0 (Str.ofString "end")) (Value.str (Str.ofString "end") 451) (Value.ref 206),DictEntry.mk (PyData.keyHash P0 (Str.ofString "__static_attributes__")) (Value.str (Str.ofString "__static_attributes__") 457) (Value.ref 207),DictEntry.mk (PyData.keyHash P0 (Str.ofString "__dict__")) (Value.str (Str.ofString "__dict__") 459) (Value.ref 210),DictEntry.mk (PyData.keyHash P0 (Str.ofString "__weakref__")) (Value.str (Str.ofString "__weakref__") 461) (Value.ref 211),DictEntry.mk (PyData.keyHash P0 (Str.ofString "__doc__")) (Value.str (Str.ofString "__doc__") 462) Value.none] 4) #[]) :: (nat_lit 209,Obj.mk (Value.type "type") Option.none (Data.cls (ClassData.mk (Str.ofString "Record") [Value.type "object"] [Value.ref 209,Value.type "object"] 208 (Str.ofString "Record") Bool.true [] [] Bool.false Option.none Bool.false)) #[Option.none,Option.none,Option.some (Value.str (Str.ofString "Record") 421),Option.some (Value.str (Str.ofString "Record") 429),Option.some (Value.builtin "object.__new__"),Option.some (Value.bool Bool.true)]) :: (nat_lit 210,Obj.mk (Value.type "getset_descriptor") Option.none (Data.fields #[Value.str (Str.ofString "__dict__") 458,Value.ref 209,Value.builtin "function.__dict__",Value.builtin "function.__dict__#set"]) #[]) :: (nat_lit 211,Obj.mk (Value.type "getset_descriptor") Option.none (Data.fields #[Value.str (Str.ofString "__weakref__") 460,Value.ref 209,Value.builtin "ExceptionGroup.__weakref__",Value.none]) #[]) :: (nat_lit 214,Obj.mk (Value.type "tuple") Option.none (Data.seq #[] 0) #[]) :: (nat_lit 215,Obj.mk Value.none Option.none (Data.fields #[]) #[]) :: (nat_lit 216,Obj.mk (Value.type "tuple") Option.none (Data.seq #[Value.str (Str.ofString "count") 468] 0) #[]) :: (nat_lit 217,Obj.mk (Value.type "tuple") Option.none (Data.seq #[] 0) #[]) :: (nat_lit 218,Obj.mk Value.none Option.none (Data.func (fnD (rfl : (pS 20) = .FunctionDef _ _ _ _ _ _ _ _ _ _) (Str.ofString "directory_size") 0 [] Value.none Value.none Value.none Value.none Option.none Value.none Value.none 0)) #[]) :: (nat_lit 219,Obj.mk (Value.type "code") Option.none (Data.fields #[Value.str (Str.ofString "directory_size") 465,Value.str (Str.ofString "directory_size") 466,Value.str (Str.ofString "/claim/cut.py") 467,Value.int (OfNat.ofNat (nat_lit 91)) 0,Value.int (OfNat.ofNat (nat_lit 1)) 0,Value.int (OfNat.ofNat (nat_lit 0)) 0,Value.int (OfNat.ofNat (nat_lit 0)) 0,Value.int (OfNat.ofNat (nat_lit 3)) 0,Value.ref 214,Value.bool Bool.true,Value.int (OfNat.ofNat (nat_lit 181)) 0,Value.ref 215,Value.none,Value.ref 216,Value.ref 217,Value.ref 218,Value.int (OfNat.ofNat (nat_lit 469)) 0,Value.int (OfNat.ofNat (nat_lit 91)) 0,Value.str (Str.ofString "/claim/cut.py") 470]) #[]) :: (nat_lit 220,Obj.mk (Value.type "function") Option.none (Data.func (fnD (rfl : (pS 20) = .FunctionDef _ _ _ _ _ _ _ _ _ _) (Str.ofString "directory_size") 3 [] Value.none Value.none Value.none (Value.str (Str.ofString "joinedhand.sfnt") 404) Option.none (Value.ref 219) Value.none 0)) #[]) :: (nat_lit 221,Obj.mk (Value.type "tuple") Option.none (Data.seq #[] 0) #[]) :: (nat_lit 222,Obj.mk Value.none Option.none (Data.fields #[]) #[]) :: (nat_lit 223,Obj.mk (Value.type "tuple") Option.none (Data.seq #[Value.str (Str.ofString "data") 475,Value.str (Str.ofString "where") 476,Value.str (Str.ofString "reader") 477,Value.str (Str.ofString "tag") 478,Value.str (Str.ofString "total") 479,Value.str (Str.ofString "begin") 480] 0) #[]) :: (nat_lit 224,Obj.mk (Value.type "tuple") Option.none (Data.seq #[] 0) #[]) :: (nat_lit 225,Obj.mk Value.none Option.none (Data.func (fnD (rfl : (pS 21) = .FunctionDef _ _ _ _ _ _ _ _ _ _) (Str.ofString "read_record") 0 [] Value.none Value.none Value.none Value.none Option.none Value.none Value.none 0)) #[]) :: (nat_lit 226,Obj.mk (Value.type "code") Option.none (Data.fields #[Value.str (Str.ofString "read_record") 472,Value.str (Str.ofString "read_record") 473,Value.str (Str.ofString "/claim/cut.py") 474,Value.int (OfNat.ofNat (nat_lit 93)) 0,Value.int (OfNat.ofNat (nat_lit 2)) 0,Value.int (OfNat.ofNat (nat_lit 0)) 0,Value.int (OfNat.ofNat (nat_lit 0)) 0,Value.int (OfNat.ofNat (nat_lit 3)) 0,Value.ref 221,Value.bool Bool.true,Value.int (OfNat.ofNat (nat_lit 181)) 0,Value.ref 222,Value.none,Value.ref 223,Value.ref 224,Value.ref 225,Value.int (OfNat.ofNat (nat_lit 481)) 0,Value.int (OfNat.ofNat (nat_lit 93)) 0,Value.str (Str.ofString "/claim/cut.py") 482]) #[]) :: (nat_lit 227,Obj.mk (Value.type "function") Option.none (Data.func (fnD (rfl : (pS 21) = .FunctionDef _ _ _ _ _ _ _ _ _ _) (Str.ofString "read_record") 3 [] Value.none Value.none Value.none (Value.str (Str.ofString "joinedhand.sfnt") 404) Option.none (Value.ref 226) Value.none 0)) #[]) :: (nat_lit 228,Obj.mk (Value.type "tuple") Option.none (Data.seq #[] 0) #[]) :: (nat_lit 229,Obj.mk Value.none Option.none (Data.fields #[]) #[]) :: (nat_lit 230,Obj.mk (Value.type "tuple") Option.none (Data.seq #[Value.str (Str.ofString "records") 487,Value.str (Str.ofString "size") 488,Value.str (Str.ofString "at") 489,Value.str (Str.ofString "one") 490] 0) #[]) :: (nat_lit 231,Obj.mk (Value.type "tuple") Option.none (Data.seq #[] 0) #[]) :: (nat_lit 232,Obj.mk Value.none Option.none (Data.func (fnD (rfl : (pS 22) = .FunctionDef _ _ _ _ _ _ _ _ _ _) (Str.ofString "need_in_order") 0 [] Value.none Value.none Value.none Value.none Option.none Value.none Value.none 0)) #[]) :: (nat_lit 233,Obj.mk (Value.type "code") Option.none (Data.fields #[Value.str (Str.ofString "need_in_order") 484,Value.str (Str.ofString "need_in_order") 485,Value.str (Str.ofString "/claim/cut.py") 486,Value.int (OfNat.ofNat (nat_lit 99)) 0,Value.int (OfNat.ofNat (nat_lit 2)) 0,Value.int (OfNat.ofNat (nat_lit 0)) 0,Value.int (OfNat.ofNat (nat_lit 0)) 0,Value.int (OfNat.ofNat (nat_lit 3)) 0,Value.ref 228,Value.bool Bool.true,Value.int (OfNat.ofNat (nat_lit 181)) 0,Value.ref 229,Value.none,Value.ref 230,Value.ref 231,Value.ref 232,Value.int (OfNat.ofNat (nat_lit 491)) 0,Value.int (OfNat.ofNat (nat_lit 99)) 0,Value.str (Str.ofString "/claim/cut.py") 492]) #[]) :: (nat_lit 234,Obj.mk (Value.type "function") Option.none (Data.func (fnD (rfl : (pS 22) = .FunctionDef _ _ _ _ _ _ _ _ _ _) (Str.ofString "need_in_order") 3 [] Value.none Value.none Value.none (Value.str (Str.ofString "joinedhand.sfnt") 404) Option.none (Value.ref 233) Value.none 0)) #[]) :: (nat_lit 235,Obj.mk (Value.type "tuple") Option.none (Data.seq #[] 0) #[]) :: (nat_lit 236,Obj.mk Value.none Option.none (Data.fields #[]) #[]) :: (nat_lit 237,Obj.mk Value.none Option.none (Data.func (fnD (rfl : (pS 23) = .FunctionDef _ _ _ _ _ _ _ _ _ _) (Str.ofString "need_apart") 0 [] Value.none Value.none Value.none Value.none Option.none Value.none Value.none 0)) #[]) :: (nat_lit 238,Obj.mk (Value.type "code") Option.none (Data.fields #[Value.str (Str.ofString "need_apart") 494,Value.str (Str.ofString "need_apart") 495,Value.str (Str.ofString "/claim/cut.py") 496,Value.int (OfNat.ofNat (nat_lit 106)) 0,Value.int (OfNat.ofNat (nat_lit 3)) 0,Value.int (OfNat.ofNat (nat_lit 0)) 0,Value.int (OfNat.ofNat (nat_lit 0)) 0,Value.int (OfNat.ofNat (nat_lit 3)) 0,Value.ref 235,Value.bool Bool.true,Value.int (OfNat.ofNat (nat_lit 181)) 0,Value.ref 236,Value.none,Value.none,Value.none,Value.ref 237,Value.int (OfNat.ofNat (nat_lit 497)) 0,Value.int (OfNat.ofNat (nat_lit 106)) 0,Value.str (Str.ofString "/claim/cut.py") 498]) #[]) :: (nat_lit 239,Obj.mk (Value.type "function") Option.none (Data.func (fnD (rfl : (pS 23) = .FunctionDef _ _ _ _ _ _ _ _ _ _) (Str.ofString "need_apart") 3 [] Value.none Value.none Value.none (Value.str (Str.ofString "joinedhand.sfnt") 404) Option.none (Value.ref 238) Value.none 0)) #[]) :: (nat_lit 240,Obj.mk (Value.type "tuple") Option.none (Data.seq #[] 0) #[]) :: (nat_lit 241,Obj.mk Value.none Option.none (Data.fields #[]) #[]) :: (nat_lit 242,Obj.mk Value.none Option.none (Data.func (fnD (rfl : (pS 24) = .FunctionDef _ _ _ _ _ _ _ _ _ _) (Str.ofString "read_records") 0 [] Value.none Value.none Value.none Value.none Option.none Value.none Value.none 0)) #[]) :: (nat_lit 243,Obj.mk (Value.type "code") Option.none (Data.fields #[Value.str (Str.ofString "read_records") 500,Value.str (Str.ofString "read_records") 501,Value.str (Str.ofString "/claim/cut.py") 502,Value.int (OfNat.ofNat (nat_lit 113)) 0,Value.int (OfNat.ofNat (nat_lit 2)) 0,Value.int (OfNat.ofNat (nat_lit 0)) 0,Value.int (OfNat.ofNat (nat_lit 0)) 0,Value.int (OfNat.ofNat (nat_lit 3)) 0,Value.ref 240,Value.bool Bool.true,Value.int (OfNat.ofNat (nat_lit 181)) 0,Value.ref 241,Value.none,Value.none,Value.none,Value.ref 242,Value.int (OfNat.ofNat (nat_lit 503)) 0,Value.int (OfNat.ofNat (nat_lit 113)) 0,Value.str (Str.ofString "/claim/cut.py") 504]) #[]) :: (nat_lit 244,Obj.mk (Value.type "function") Option.none (Data.func (fnD (rfl : (pS 24) = .FunctionDef _ _ _ _ _ _ _ _ _ _) (Str.ofString "read_records") 3 [] Value.none Value.none Value.none (Value.str (Str.ofString "joinedhand.sfnt") 404) Option.none (Value.ref 243) Value.none 0)) #[]) :: (nat_lit 245,Obj.mk (Value.type "tuple") Option.none (Data.seq #[] 0) #[]) :: (nat_lit 246,Obj.mk Value.none Option.none (Data.fields #[]) #[]) :: (nat_lit 247,Obj.mk Value.none Option.none (Data.func (fnD (rfl : (pS 25) = .FunctionDef _ _ _ _ _ _ _ _ _ _) (Str.ofString "tables_of") 0 [] Value.none Value.none Value.none Value.none Option.none Value.none Value.none 0)) #[]) :: (nat_lit 248,Obj.mk (Value.type "code") Option.none (Data.fields #[Value.str (Str.ofString "tables_of") 506,Value.str (Str.ofString "tables_of") 507,Value.str (Str.ofString "/claim/cut.py") 508,Value.int (OfNat.ofNat (nat_lit 127)) 0,Value.int (OfNat.ofNat (nat_lit 2)) 0,Value.int (OfNat.ofNat (nat_lit 0)) 0,Value.int (OfNat.ofNat (nat_lit 0)) 0,Value.int (OfNat.ofNat (nat_lit 3)) 0,Value.ref 245,Value.bool Bool.true,Value.int (OfNat.ofNat (nat_lit 181)) 0,Value.ref 246,Value.none,Value.none,Value.none,Value.ref 247,Value.int (OfNat.ofNat (nat_lit 509)) 0,Value.int (OfNat.ofNat (nat_lit 127)) 0,Value.str (Str.ofString "/claim/cut.py") 510]) #[]) :: (nat_lit 249,Obj.mk (Value.type "function") Option.none (Data.func (fnD (rfl : (pS 25) = .FunctionDef _ _ _ _ _ _ _ _ _ _) (Str.ofString "tables_of") 3 [] Value.none Value.none Value.none (Value.str (Str.ofString "joinedhand.sfnt") 404) Option.none (Value.ref 248) Value.none 0)) #[]) :: (nat_lit 250,Obj.mk (Value.type "tuple") Option.none (Data.seq #[] 0) #[]) :: (nat_lit 251,Obj.mk Value.none Option.none (Data.fields #[]) #[]) :: (nat_lit 252,Obj.mk (Value.type "tuple") Option.none (Data.seq #[Value.str (Str.ofString "data") 515] 0) #[]) :: (nat_lit 253,Obj.mk (Value.type "tuple") Option.none (Data.seq #[] 0) #[]) :: (nat_lit 254,Obj.mk Value.none Option.none (Data.func (fnD (rfl : (pS 26) = .FunctionDef _ _ _ _ _ _ _ _ _ _) (Str.ofString "is_collection") 0 [] Value.none Value.none Value.none Value.none Option.none Value.none Value.none 0)) #[]) :: (nat_lit 255,Obj.mk (Value.type "code") Option.none (Data.fields #[Value.str (Str.ofString "is_collection") 512,Value.str (Str.ofString "is_collection") 513,Value.str (Str.ofString "/claim/cut.py") 514,Value.int (OfNat.ofNat (nat_lit 129)) 0,Value.int (OfNat.ofNat (nat_lit 1)) 0,Value.int (OfNat.ofNat (nat_lit 0)) 0,Value.int (OfNat.ofNat (nat_lit 0)) 0,Value.int (OfNat.ofNat (nat_lit 3)) 0,Value.ref 250,Value.bool Bool.true,Value.int (OfNat.ofNat (nat_lit 181)) 0,Value.ref 251,Value.none,Value.ref 252,Value.ref 253,Value.ref 254,Value.int (OfNat.ofNat (nat_lit 516)) 0,Value.int (OfNat.ofNat (nat_lit 129)) 0,Value.str (Str.ofString "/claim/cut.py") 517]) #[]) :: (nat_lit 256,Obj.mk (Value.type "function") Option.none (Data.func (fnD (rfl : (pS 26) = .FunctionDef _ _ _ _ _ _ _ _ _ _) (Str.ofString "is_collection") 3 [] Value.none Value.none Value.none (Value.str (Str.ofString "joinedhand.sfnt") 404) Option.none (Value.ref 255) Value.none 0)) #[]) :: (nat_lit 257,Obj.mk (Value.type "tuple") Option.none (Data.seq #[] 0) #[]) :: (nat_lit 258,Obj.mk Value.none Option.none (Data.fields #[]) #[]) :: (nat_lit 259,Obj.mk (Value.type "tuple") Option.none (Data.seq #[Value.str (Str.ofString "data") 522,Value.str (Str.ofString "reader") 523,Value.str (Str.ofString "count") 524,Value.str (Str.ofString "found") 525,Value.str (Str.ofString "spot") 526,Value.str (Str.ofString "version") 527,Value.str (Str.ofString "records") 528] 0) #[]) :: (nat_lit 260,Obj.mk (Value.type "tuple") Option.none (Data.seq #[] 0) #[]) :: (nat_lit 261,Obj.mk Value.none Option.none (Data.func (fnD (rfl : (pS 27) = .FunctionDef _ _ _ _ _ _ _ _ _ _) (Str.ofString "read_collection") 0 [] Value.none Value.none Value.none Value.none Option.none Value.none Value.none 0)) #[]) :: (nat_lit 262,Obj.mk (Value.type "code") Option.none (Data.fields #[Value.str (Str.ofString "read_collection") 519,Value.str (Str.ofString "read_collection") 520,Value.str (Str.ofString "/claim/cut.py") 521,Value.int (OfNat.ofNat (nat_lit 131)) 0,Value.int (OfNat.ofNat (nat_lit 1)) 0,Value.int (OfNat.ofNat (nat_lit 0)) 0,Value.int (OfNat.ofNat (nat_lit 0)) 0,Value.int (OfNat.ofNat (nat_lit 3)) 0,Value.ref 257,Value.bool Bool.true,Value.int (OfNat.ofNat (nat_lit 181)) 0,Value.ref 258,Value.none,Value.ref 259,Value.ref 260,Value.ref 261,Value.int (OfNat.ofNat (nat_lit 529)) 0,Value.int (OfNat.ofNat (nat_lit 131)) 0,Value.str (Str.ofString "/claim/cut.py") 530]) #[]) :: (nat_lit 263,Obj.mk (Value.type "function") Option.none (Data.func (fnD (rfl : (pS 27) = .FunctionDef _ _ _ _ _ _ _ _ _ _) (Str.ofString "read_collection") 3 [] Value.none Value.none Value.none (Value.str (Str.ofString "joinedhand.sfnt") 404) Option.none (Value.ref 262) Value.none 0)) #[]) :: (nat_lit 264,Obj.mk (Value.type "tuple") Option.none (Data.seq #[Value.int (OfNat.ofNat (nat_lit 65536)) 534,Value.int (OfNat.ofNat (nat_lit 1330926671)) 535,Value.int (OfNat.ofNat (nat_lit 1953658213)) 536] 0) #[]) :: (nat_lit 265,Obj.mk (Value.type "tuple") Option.none (Data.seq #[] 0) #[]) :: (nat_lit 266,Obj.mk Value.none Option.none (Data.fields #[]) #[]) :: (nat_lit 267,Obj.mk (Value.type "tuple") Option.none (Data.seq #[Value.str (Str.ofString "tape") 541,Value.str (Str.ofString "many") 542,Value.str (Str.ofString "cells") 543,Value.str (Str.ofString "at") 544] 0) #[]) :: (nat_lit 268,Obj.mk (Value.type "tuple") Option.none (Data.seq #[] 0) #[]) :: (nat_lit 269,Obj.mk Value.none Option.none (Data.func (fnD (rfl : (pS 30) = .FunctionDef _ _ _ _ _ _ _ _ _ _) (Str.ofString "_law_draw") 0 [] Value.none Value.none Value.none Value.none Option.none Value.none Value.none 0)) #[]) :: (nat_lit 270,Obj.mk (Value.type "code") Option.none (Data.fields #[Value.str (Str.ofString "_law_draw") 538,Value.str (Str.ofString "_law_draw") 539,Value.str (Str.ofString "/claim/cut.py") 540,Value.int (OfNat.ofNat (nat_lit 147)) 0,Value.int (OfNat.ofNat (nat_lit 2)) 0,Value.int (OfNat.ofNat (nat_lit 0)) 0,Value.int (OfNat.ofNat (nat_lit 0)) 0,Value.int (OfNat.ofNat (nat_lit 3)) 0,Value.ref 265,Value.bool Bool.true,Value.int (OfNat.ofNat (nat_lit 181)) 0,Value.ref 266,Value.none,Value.ref 267,Value.ref 268,Value.ref 269,Value.int (OfNat.ofNat (nat_lit 545)) 0,Value.int (OfNat.ofNat (nat_lit 147)) 0,Value.str (Str.ofString "/claim/cut.py") 546]) #[]) :: (nat_lit 271,Obj.mk (Value.type "function") Option.none (Data.func (fnD (rfl : (pS 30) = .FunctionDef _ _ _ _ _ _ _ _ _ _) (Str.ofString "_law_draw") 3 [] Value.none Value.none Value.none (Value.str (Str.ofString "law_pb0178_01") 532) Option.none (Value.ref 270) Value.none 0)) #[]) :: (nat_lit 272,Obj.mk (Value.type "tuple") Option.none (Data.seq #[] 0) #[]) :: (nat_lit 273,Obj.mk Value.none Option.none (Data.fields #[]) #[]) :: (nat_lit 274,Obj.mk Value.none Option.none (Data.func (fnD (rfl : (pS 31) = .FunctionDef _ _ _ _ _ _ _ _ _ _) (Str.ofString "_law_octets") 0 [] Value.none Value.none Value.none Value.none Option.none Value.none Value.none 0)) #[]) :: (nat_lit 275,Obj.mk (Value.type "code") Option.none (Data.fields #[Value.str (Str.ofString "_law_octets") 548,Value.str (Str.ofString "_law_octets") 549,Value.str (Str.ofString "/claim/cut.py") 550,Value.int (OfNat.ofNat (nat_lit 151)) 0,Value.int (OfNat.ofNat (nat_lit 2)) 0,Value.int (OfNat.ofNat (nat_lit 0)) 0,Value.int (OfNat.ofNat (nat_lit 0)) 0,Value.int (OfNat.ofNat (nat_lit 3)) 0,Value.ref 272,Value.bool Bool.true,Value.int (OfNat.ofNat (nat_lit 181)) 0,Value.ref 273,Value.none,Value.none,Value.none,Value.ref 274,Value.int (OfNat.ofNat (nat_lit 551)) 0,Value.int (OfNat.ofNat (nat_lit 151)) 0,Value.str (Str.ofString "/claim/cut.py") 552]) #[]) :: (nat_lit 276,Obj.mk (Value.type "function") Option.none (Data.func (fnD (rfl : (pS 31) = .FunctionDef _ _ _ _ _ _ _ _ _ _) (Str.ofString "_law_octets") 3 [] Value.none Value.none Value.none (Value.str (Str.ofString "law_pb0178_01") 532) Option.none (Value.ref 275) Value.none 0)) #[]) :: (nat_lit 277,Obj.mk (Value.type "tuple") Option.none (Data.seq #[] 0) #[]) :: (nat_lit 278,Obj.mk Value.none Option.none (Data.fields #[]) #[]) :: (nat_lit 279,Obj.mk Value.none Option.none (Data.func (fnD (rfl : (pS 32) = .FunctionDef _ _ _ _ _ _ _ _ _ _) (Str.ofString "_law_font") 0 [] Value.none Value.none Value.none Value.none Option.none Value.none Value.none 0)) #[]) :: (nat_lit 280,Obj.mk (Value.type "code") Option.none (Data.fields #[Value.str (Str.ofString "_law_font") 554,Value.str (Str.ofString "_law_font") 555,Value.str (Str.ofString "/claim/cut.py") 556,Value.int (OfNat.ofNat (nat_lit 153)) 0,Value.int (OfNat.ofNat (nat_lit 2)) 0,Value.int (OfNat.ofNat (nat_lit 0)) 0,Value.int (OfNat.ofNat (nat_lit 0)) 0,Value.int (OfNat.ofNat (nat_lit 3)) 0,Value.ref 277,Value.bool Bool.true,Value.int (OfNat.ofNat (nat_lit 181)) 0,Value.ref 278,Value.none,Value.none,Value.none,Value.ref 279,Value.int (OfNat.ofNat (nat_lit 557)) 0,Value.int (OfNat.ofNat (nat_lit 153)) 0,Value.str (Str.ofString "/claim/cut.py") 558]) #[]) :: (nat_lit 281,Obj.mk (Value.type "function") Option.none (Data.func (fnD (rfl : (pS 32) = .FunctionDef _ _ _ _ _ _ _ _ _ _) (Str.ofString "_law_font") 3 [] Value.none Value.none Value.none (Value.str (Str.ofString "law_pb0178_01") 532) Option.none (Value.ref 280) Value.none 0)) #[]) :: (nat_lit 282,Obj.mk (Value.type "tuple") Option.none (Data.seq #[] 0) #[]) :: (nat_lit 283,Obj.mk Value.none Option.none (Data.fields #[]) #[]) :: (nat_lit 284,Obj.mk (Value.type "tuple") Option.none (Data.seq #[Value.str (Str.ofString "data") 563] 0) #[]) :: (nat_lit 285,Obj.mk (Value.type "tuple") Option.none (Data.seq #[] 0) #[]) :: (nat_lit 286,Obj.mk Value.none Option.none (Data.func (fnD (rfl : (pS 33) = .FunctionDef _ _ _ _ _ _ _ _ _ _) (Str.ofString "_law_refused") 0 [] Value.none Value.none Value.none Value.none Option.none Value.none Value.none 0)) #[]) :: (nat_lit 287,Obj.mk (Value.type "code") Option.none (Data.fields #[Value.str (Str.ofString "_law_refused") 560,Value.str (Str.ofString "_law_refused") 561,Value.str (Str.ofString "/claim/cut.py") 562,Value.int (OfNat.ofNat (nat_lit 158)) 0,Value.int (OfNat.ofNat (nat_lit 1)) 0,Value.int (OfNat.ofNat (nat_lit 0)) 0,Value.int (OfNat.ofNat (nat_lit 0)) 0,Value.int (OfNat.ofNat (nat_lit 3)) 0,Value.ref 282,Value.bool Bool.true,Value.int (OfNat.ofNat (nat_lit 181)) 0,Value.ref 283,Value.none,Value.ref 284,Value.ref 285,Value.ref 286,Value.int (OfNat.ofNat (nat_lit 564)) 0,Value.int (OfNat.ofNat (nat_lit 158)) 0,Value.str (Str.ofString "/claim/cut.py") 565]) #[]) :: (nat_lit 288,Obj.mk (Value.type "function") Option.none (Data.func (fnD (rfl : (pS 33) = .FunctionDef _ _ _ _ _ _ _ _ _ _) (Str.ofString "_law_refused") 3 [] Value.none Value.none Value.none (Value.str (Str.ofString "law_pb0178_01") 532) Option.none (Value.ref 287) Value.none 0)) #[]) :: (nat_lit 289,Obj.mk (Value.type "tuple") Option.none (Data.seq #[] 0) #[]) :: (nat_lit 290,Obj.mk Value.none Option.none (Data.fields #[]) #[]) :: (nat_lit 291,Obj.mk Value.none Option.none (Data.func (fnD (rfl : (pS 34) = .FunctionDef _ _ _ _ _ _ _ _ _ _) (Str.ofString "law") 0 [] Value.none Value.none Value.none Value.none Option.none Value.none Value.none 0)) #[]) :: (nat_lit 292,Obj.mk (Value.type "code") Option.none (Data.fields #[Value.str (Str.ofString "law") 567,Value.str (Str.ofString "law") 568,Value.str (Str.ofString "/claim/cut.py") 569,Value.int (OfNat.ofNat (nat_lit 164)) 0,Value.int (OfNat.ofNat (nat_lit 1)) 0,Value.int (OfNat.ofNat (nat_lit 0)) 0,Value.int (OfNat.ofNat (nat_lit 0)) 0,Value.int (OfNat.ofNat (nat_lit 3)) 0,Value.ref 289,Value.bool Bool.true,Value.int (OfNat.ofNat (nat_lit 181)) 0,Value.ref 290,Value.none,Value.none,Value.none,Value.ref 291,Value.int (OfNat.ofNat (nat_lit 570)) 0,Value.int (OfNat.ofNat (nat_lit 164)) 0,Value.str (Str.ofString "/claim/cut.py") 571]) #[]) :: (nat_lit 293,Obj.mk (Value.type "function") Option.none (Data.func (fnD (rfl : (pS 34) = .FunctionDef _ _ _ _ _ _ _ _ _ _) (Str.ofString "law") 3 [] Value.none Value.none Value.none (Value.str (Str.ofString "law_pb0178_01") 532) Option.none (Value.ref 292) Value.none 0)) #[]) :: [])
noncomputable abbrev hdLv : List (PySem.Str × WData) := [(Str.ofString "VERSIONS", WData.tuple [WData.int 65536, WData.int 1330926671, WData.int 1953658213])]
noncomputable abbrev hdLoose : List PySem.Str := [Str.ofString "ShapeError", Str.ofString "VERSIONS"]
noncomputable abbrev hdR : RowW := PySem.Challenge.rw_pb0178_01.row.toRowW
noncomputable abbrev hdAs : List Nat := [0, 1, 2, 3, 4, 5, 6, 7, 8, 9, 10, 11, 12, 13, 14, 15, 16, 17, 18, 19, 20, 21, 22, 25, 30, 31, 32, 33, 34, 35, 36, 37, 38, 39, 40, 41, 42, 43, 44, 45, 46, 47, 48, 49, 52, 59, 60, 61, 64, 71, 72, 73, 76, 77, 78, 79, 80, 81, 82, 83, 84, 85, 86, 87, 88, 89, 90, 91, 92, 93, 94, 95, 96, 104, 105, 106, 107, 108, 109, 110, 111, 112, 113, 114, 115, 116, 117, 118, 119, 120, 121, 122, 123, 124, 125, 126, 127, 128, 129, 130, 131, 132, 133, 134, 135, 136, 137, 138, 139, 140, 141, 142, 143, 144, 145, 146, 147, 148, 149, 150, 151, 152, 153, 154, 155, 156, 157, 158, 159, 160, 161, 162, 163, 164, 165, 166, 167, 168, 169, 170, 171, 172, 173, 174, 175, 176, 177, 178, 179, 180, 181, 182, 185, 193, 194, 195, 196, 197, 198, 199, 200, 201, 202, 203, 204, 205, 206, 207, 208, 209, 210, 211, 214, 215, 216, 217, 218, 219, 220, 221, 222, 223, 224, 225, 226, 227, 228, 229, 230, 231, 232, 233, 234, 235, 236, 237, 238, 239, 240, 241, 242, 243, 244, 245, 246, 247, 248, 249, 250, 251, 252, 253, 254, 255, 256, 257, 258, 259, 260, 261, 262, 263, 264, 265, 266, 267, 268, 269, 270, 271, 272, 273, 274, 275, 276, 277, 278, 279, 280, 281, 282, 283, 284, 285, 286, 287, 288, 289, 290, 291, 292, 293]
theorem hdAs_ok (P : Params) : hdAs = (hd.heap_39 P).map (·.1) := by kernel_rfl
noncomputable abbrev hdHook : Hook := kHook hd.heap_39 hdAs hdAs_ok
noncomputable abbrev hdO (s : Shared) := openSeen hd.view_39 hdLoose (importedModules hdR.prog.main.body) (fun s => xlAt hd.view_39 hdLv s && recOk (RowW.records hdR) s) true s
set_option maxRecDepth 100000 in
set_option maxHeartbeats 8000000 in
theorem hd_1 (w : World) : (openEnds treeTable hdR.prog w 4390).map hdO = some (openGood hd.view_39 hdLoose) := by kernel_rfl
set_option maxRecDepth 100000 in
set_option maxHeartbeats 8000000 in
theorem hd_2 (w : World) : (openEnds treeTable hdR.prog w 4390).map (Hook.obs hdHook) = some (Hook.val hdHook w) := by kernel_rfl
theorem hd_left : LeftO hdR.prog hd.view_39 hdLoose (fun s => xlAt hd.view_39 hdLv s && recOk (RowW.records hdR) s) (Hook.obs hdHook) (Hook.val hdHook) 4390 := by
  intro w
  obtain ⟨s, e, a⟩ := Option.map_eq_some_iff.mp (hd_1 w)
  have b := hd_2 w
  rw [e] at b ⊢
  exact congrArg some (congr (congrArg Prod.mk a) (Option.some.inj b))
set_option maxRecDepth 100000 in
theorem hd_said : PySem.Challenge.rw_pb0178_01.wellSaid = true := by kernel_rfl
end Mine
end
section
open PySem PySem.W PyProof.Rows PySem.Calls
namespace Mine
theorem hb9 {lx9 lm9 : Nat} (h9 : lx9 ≤ lm9 := by first | assumption | exact Nat.le_sub_of_add_le (by assumption) | exact Nat.le_sub_of_add_le (Nat.le_of_lt (by assumption))) : lx9 ≤ lm9 := h9
theorem room0 {lx9 lm9 lc9 : Nat} (h9 : lx9 ≤ lm9 := by exact hb9) (k9 : Nat.blt lm9 lc9 = true := by exact rfl) : lx9 < lc9 := Nat.lt_of_le_of_lt h9 (Nat.le_of_ble_eq_true k9)
theorem room1 {lx9 lm9 la9 lc9 : Nat} (h9 : lx9 ≤ lm9 := by exact hb9) (k9 : Nat.blt (lm9 + la9) lc9 = true := by exact rfl) : lx9 + la9 < lc9 := room0 (Nat.add_le_add_right h9 la9) k9
theorem room2 {lx9 lm9 la9 lb9 lc9 : Nat} (h9 : lx9 ≤ lm9 := by exact hb9) (k9 : Nat.blt (lm9 + la9 + lb9) lc9 = true := by exact rfl) : lx9 + la9 + lb9 < lc9 := room1 (Nat.add_le_add_right h9 la9) k9
theorem room3 {lx9 lm9 la9 lb9 ld9 lc9 : Nat} (h9 : lx9 ≤ lm9 := by exact hb9) (k9 : Nat.blt (lm9 + la9 + lb9 + ld9) lc9 = true := by exact rfl) : lx9 + la9 + lb9 + ld9 < lc9 := room2 (Nat.add_le_add_right h9 la9) k9
theorem room4 {lx9 lm9 la9 lc9 : Nat} (h9 : lx9 ≤ lm9 := by exact hb9) (k9 : Nat.ble (lm9 + la9) lc9 = true := by exact rfl) : lx9 + la9 ≤ lc9 := Nat.le_trans (Nat.add_le_add_right h9 la9) (Nat.le_of_ble_eq_true k9)
theorem room5 {lx9 lm9 la9 lb9 lc9 : Nat} (h9 : lx9 ≤ lm9 := by exact hb9) (k9 : Nat.ble (lm9 + la9 + lb9) lc9 = true := by exact rfl) : lx9 + la9 + lb9 ≤ lc9 := room4 (Nat.add_le_add_right h9 la9) k9
theorem room6 {lx9 lm9 la9 lb9 ld9 le9 lc9 : Nat} (h9 : lx9 ≤ lm9 := by exact hb9) (k9 : Nat.blt (lm9 + la9 + lb9 + ld9 + le9) lc9 = true := by exact rfl) : lx9 + la9 + lb9 + ld9 + le9 < lc9 := room3 (Nat.add_le_add_right h9 la9) k9
theorem len_app {lx9 ly9 : List Int} {la9 lb9 : Nat} (h9 : lx9.length ≤ la9) (k9 : ly9.length ≤ lb9) : (lx9 ++ ly9).length ≤ la9 + lb9 := by rw [List.length_append]; exact Nat.add_le_add h9 k9
theorem len_take {lx9 : List Int} {ln9 la9 : Nat} (h9 : lx9.length ≤ la9) : (lx9.take ln9).length ≤ la9 := by rw [List.length_take]; exact Nat.le_trans (Nat.min_le_right _ _) h9
theorem len_drop {lx9 : List Int} {ln9 la9 : Nat} (h9 : lx9.length ≤ la9) : (lx9.drop ln9).length ≤ la9 := by rw [List.length_drop]; exact Nat.le_trans (Nat.sub_le _ _) h9
theorem sz9 {lx9 : List Int} {la9 : Nat} (h9 : lx9.length ≤ la9 := by repeat (first | with_reducible assumption | exact Nat.le_of_eq (by with_reducible assumption) | apply len_app | apply len_take | apply len_drop | exact Nat.le_refl _)) : lx9.length ≤ la9 := h9
theorem size1 {lx9 : List Int} {la9 lc9 : Nat} (h9 : lx9.length ≤ la9 := by exact sz9) (k9 : Nat.ble la9 lc9 = true := by exact rfl) : lx9.length ≤ lc9 := Nat.le_trans h9 (Nat.le_of_ble_eq_true k9)
theorem size2 {lx9 ly9 : List Int} {la9 lb9 lc9 : Nat} (h9 : lx9.length ≤ la9 := by exact sz9) (i9 : ly9.length ≤ lb9 := by exact sz9) (k9 : Nat.ble (la9 + lb9) lc9 = true := by exact rfl) : lx9.length + ly9.length ≤ lc9 := Nat.le_trans (Nat.add_le_add h9 i9) (Nat.le_of_ble_eq_true k9)
theorem lt_tr {lx9 lm9 ly9 : Nat} (h9 : lm9 < lx9) (k9 : ly9 < lm9) : ly9 < lx9 := Nat.lt_trans k9 h9
section
variable {p0 p1 p2 p3 p4 p5 p6 p7 p8 p9 : Prop}
theorem and0 (h9 : p0 ∧ p1 := by with_reducible assumption) : p0 := h9.1
theorem and1 (h9 : p0 ∧ p1 ∧ p2 := by with_reducible assumption) : p1 := h9.2.1
theorem and2 (h9 : p0 ∧ p1 ∧ p2 ∧ p3 := by with_reducible assumption) : p2 := h9.2.2.1
theorem and3 (h9 : p0 ∧ p1 ∧ p2 ∧ p3 ∧ p4 := by with_reducible assumption) : p3 := h9.2.2.2.1
theorem and4 (h9 : p0 ∧ p1 ∧ p2 ∧ p3 ∧ p4 ∧ p5 := by with_reducible assumption) : p4 := h9.2.2.2.2.1
theorem and5 (h9 : p0 ∧ p1 ∧ p2 ∧ p3 ∧ p4 ∧ p5 ∧ p6 := by with_reducible assumption) : p5 := h9.2.2.2.2.2.1
theorem and6 (h9 : p0 ∧ p1 ∧ p2 ∧ p3 ∧ p4 ∧ p5 ∧ p6 ∧ p7 := by with_reducible assumption) : p6 := h9.2.2.2.2.2.2.1
theorem and7 (h9 : p0 ∧ p1 ∧ p2 ∧ p3 ∧ p4 ∧ p5 ∧ p6 ∧ p7 ∧ p8 := by with_reducible assumption) : p7 := h9.2.2.2.2.2.2.2.1
end
theorem lt9 {lx9 ly9 : Nat} (h9 : ly9 < lx9 := by first | with_reducible assumption | exact and0 | exact and1 | exact and2 | exact and3 | exact and4 | exact and5 | exact and6 | exact and7) : ly9 < lx9 := h9
theorem lt8 {lx9 ly9 : Nat} (h9 : ly9 < lx9 := by first | exact lt9 | exact lt_tr (by with_reducible assumption) lt9) : ly9 < lx9 := h9
theorem ne9 {lx9 ly9 : Nat} (h9 : ly9 < lx9 := by exact lt8) : ¬lx9 = ly9 := Nat.ne_of_gt h9
theorem ne8 {lx9 ly9 : Nat} (h9 : lx9 < ly9 := by exact lt8) : ¬lx9 = ly9 := Nat.ne_of_lt h9
theorem off9 {lx9 li9 lc9 ld9 : Nat} (h9 : ¬lx9 = li9 := by first | exact ne9 | exact ne8) (i9 : ¬lx9 = lc9 := by first | exact ne9 | exact ne8) (j9 : ¬lx9 = ld9 := by first | exact ne9 | exact ne8) : ¬lx9 = li9 ∧ ¬lx9 = lc9 ∧ ¬lx9 = ld9 := ⟨h9, i9, j9⟩
end Mine
end
section
open PySem PySem.W PySem.W.X PyProof.Rows PySem.Calls
namespace Mine
theorem wp_lift {α : Type} {M : Model} {A : Around} {dp un : Nat} {t : Sem α} {Q : α → Shared → Prop} {E : Value → Shared → Prop} {s : Shared}
  (h : wpAny M { A with depth := dp, units := un } t Q E s) (h1 : A.depth ≤ dp) (h2 : A.units ≤ un) : wpAny M A t Q E s :=
  fun Γ p hΓ => h Γ p ⟨hΓ.1, Nat.le_trans hΓ.2.1 h1, hΓ.2.2.1, hΓ.2.2.2.1, Nat.le_trans hΓ.2.2.2.2 h2⟩
noncomputable def XEnd (h : Heap) (g : Array GenState) (d : Drawn) (os : OsState) (Q : Value → Shared → Prop) (P : Value → List (Addr × Obj) → Prop) : Prop :=
  ∀ v h' t news, Mem h h' [] news → P v news → Q v ⟨h', g, d, t, os⟩
theorem xend {h h' : Heap} {g : Array GenState} {d : Drawn} {t : Nat} {os : OsState} {Q : Value → Shared → Prop} {P : Value → List (Addr × Obj) → Prop} {v : Value} {news : List (Addr × Obj)}
  (x : XEnd h g d os Q P) (D : Mem h h' [] news) (p : P v news) : Q v ⟨h', g, d, t, os⟩ := x v h' t news D p
theorem mem_keep {h h' : Heap} {news : List (Addr × Obj)} (D : Mem h h' [] news) : ∀ b o, h.get? b = some o → h'.get? b = some o :=
  fun b o e => D.keep b o e (by show (hasCls o || true) = true; simp)
theorem new_news {h₀ h h' : Heap} {L a : Addr} {m : Str → Option Value} {news : List (Addr × Obj)} {o : Obj} (F : Fr h₀ L h m) (N : News h₀ L h news) (k : ∀ b o, h.get? b = some o → h'.get? b = some o) (hn : h.get? a = none) (hm : h'.get? a = some o) :
    Fr h₀ L h' m ∧ News h₀ L h' ((a, o) :: news) ∧ ∀ p ∈ news, p.1 ≠ a := by
  refine ⟨Fr.keeps F k, fun p hp => ?_, fun p hp e => ?_⟩
  · rcases List.mem_cons.mp hp with rfl | hp
    · refine ⟨hm, ?_, ?_⟩
      · obtain ⟨oL, _, _, hL, _⟩ := F.ns
        intro e
        have e' : a = L := e
        rw [← e'] at hL
        exact nomatch hn.symm.trans hL
      · cases q : h₀.get? a with
        | none => rfl
        | some o' => exact nomatch hn.symm.trans (F.keep _ _ q)
    · exact (N.keepsAll k) p hp
  · have h1 := (N p hp).1
    rw [e] at h1
    exact nomatch hn.symm.trans h1
theorem mem_news {h₀ h h' : Heap} {L a : Addr} {m : Str → Option Value} {news nn : List (Addr × Obj)} {o : Obj} (F : Fr h₀ L h m) (N : News h₀ L h news) (D : Mem h h' [] nn) (hm : (a, o) ∈ nn) :
    Fr h₀ L h' m ∧ News h₀ L h' ((a, o) :: news) ∧ ∀ p ∈ news, p.1 ≠ a := new_news F N (mem_keep D) (D.nw _ hm).2 (D.nw _ hm).1
theorem khash {P : Params} {x : Str} : condFn Int x.cps.isEmpty 0 (XFast.xw12210062019545310541 (P.strHash x.cps)) = PyData.keyHash P x := by
  unfold PyData.keyHash
  rw [← PySem.W.XFast.xe12210062019545310541]
  cases x.cps.isEmpty <;> rfl
section
variable {prog : Program} {w : World} {A : Around} {E : Value → Shared → Prop} {s : Shared}
noncomputable abbrev listO (xs : Array Value) (n : Nat) : Obj := ⟨.type "list", none, .seq xs n, #[]⟩
theorem keys_miss {l : Addr} {xs : Array Value} {n : Nat} {Q : Option Value → Shared → Prop} (hx : s.heap.get? l = some (listO xs n)) (hA : A.handled = none)
    (hq : ∀ h' tk, (∀ b o, s.heap.get? b = some o → h'.get? b = some o) → Q none { s with heap := h', toks := tk }) :
    wpAny (model prog w) A (getAttr? (.ref l) "keys") Q E s := by
  obtain ⟨hp, g, d, tk, os⟩ := s
  have hT : ∀ tk', (⟨hp, g, d, tk', os⟩ : Shared).TypeIs (.ref l) "list" := fun _ => ⟨_, hx, rfl⟩
  have f1 := sub_AttributeError
  have f3 := F.slot_list_getattribute.lookup
  have f4 := F.slot_list_getattribute.bind (.ref l)
  have f5 := am_list_getattr_none
  have hmiss : typeLookup (.type "list") "keys" = pure none := am_miss_of_fast (by kernel_rfl)
  unfold getAttr? getAttrBy? getAttrBy
  repeat (any_goals (first | assumption | exact hT _ | ((with_reducible show wpAny _ _ (call (Value.builtin "list.__getattribute__") _ _) _ _ _); refine call_meets F.slot_list_getattribute (hT _) am_entry_list_getattribute (F.args_list_getattribute_2 _ _) (meets_getattribute_miss_list l xs n #[] "keys" _ hmiss (by decide +kernel)) ⟨hx, hA, fun h' tk' e hx' => ?_⟩) | wp_step))
  obtain ⟨t', u', he⟩ := hx'.there
  show wpAny _ _ (getattributeRaised _ _ _ _ _ _ _) _ _ _
  unfold getattributeRaised
  repeat (any_goals (first | assumption | wp_step))
  exact hq _ _ hx'.keeps
noncomputable abbrev dent (w : World) (x : Str) (t : Tok) (v : Value) : DictEntry := ⟨PyData.keyHash w.params x, .str x t, v⟩
theorem isStrOf_ne {x y : Str} {t : Tok} (h : y ≠ x) : Value.isStrOf x (.str y t) = false := by
  cases q : Value.isStrOf x (.str y t) with
  | false => rfl
  | true =>
    obtain ⟨u, e⟩ := Value.isStrOf_shape q
    injection e with e1 _
    exact absurd e1 h
theorem dset {D : Addr} {es : List DictEntry} {ep : Nat} {x : Str} {t : Tok} {v : Value} {Q : Unit → Shared → Prop} (hd : s.heap.get? D = some (dictOf es ep))
    (hk : ∀ e ∈ es, ∃ y u z, e = dent w y u z ∧ y ≠ x) (hz : es.length ≤ 8)
    (hq : ∀ h' tk, h'.get? D = some (dictOf (es ++ [dent w x t v]) (ep + 1)) → Heap.SameBut D s.heap h' → Q () { s with heap := h', toks := tk }) :
    wpAny (model prog w) A (dictSet D (.str x t) v) Q E s := by
  have hkey : (strKind prog w).is x (.str x t) = true := by show Value.isStrOf x (.str x t) = true; simp [Value.isStrOf]
  have hK : KeysOf (strKind prog w) es.toArray := fun e he => by
    obtain ⟨y, u, z, rfl, _⟩ := hk e (by simpa using he)
    exact ⟨y, by show Value.isStrOf y (.str y u) = true; simp [Value.isStrOf], rfl⟩
  unfold dictSet
  refine wpAny_holding ?_
  refine wpAny_bind ((strKind prog w).pyHash hkey ?_)
  unfold dictSetHashed
  refine wpAny_holding ?_
  refine wpAny_bind (wpAny_dictFind_of (s := { s with toks := s.toks + 1 }) hkey hd rfl hK ?_)
  have hi : (es.toArray.findIdx? fun e => (strKind prog w).is x e.key) = none := by
    rw [Array.findIdx?_eq_none_iff]
    intro e he
    obtain ⟨y, u, z, rfl, hne⟩ := hk e (by simpa using he)
    exact isStrOf_ne (t := u) hne
  rw [hi]
  refine wpAny_bind (wpAny_rule (wpAny_updateDictKeys (hz := Nat.le_trans (by simpa using hz) (by decide : 8 ≤ sizeLine)) (s := { s with toks := s.toks + 1 }) hd rfl (hq _ _ ?_ (Heap.SameBut.update ..))))
  refine (Heap.get?_update_self _ hd rfl).trans ?_
  simp [Obj.mapDictKeys, dictOf, dent]
  rfl
theorem entry_dict_loop : entryFor table "dict.update.loop" = some Builtin.«dict.update.loop» := entryFor_of_fast (by kernel_rfl)
theorem plain_dict_loop : plainId "dict.update.loop" = true := by decide +kernel
noncomputable abbrev loopC (D it : Addr) (i : Int) : Code := .builtin "dict.update.loop" ⟨[.ref D, .ref it, rawInt i, .none], []⟩
theorem loop_step {R : Result → Shared → Prop} {D it l p : Addr} {i : Nat} {xs : Array Value} {n m : Nat} {es : List DictEntry} {ep : Nat} {x : Str} {t : Tok} {v : Value}
    (hl : s.heap.get? l = some (listO xs n)) (hp : s.heap.get? p = some (seqObj "tuple" #[.str x t, v] m)) (hx : xs[i]? = some (.ref p))
    (hi : s.heap.IsListIter it l i) (hd : s.heap.get? D = some (dictOf es ep)) (hlD : l ≠ D) (hli : l ≠ it) (hpD : p ≠ D) (hpi : p ≠ it) (hDi : D ≠ it)
    (hk : ∀ e ∈ es, ∃ y u z, e = dent w y u z ∧ y ≠ x) (hz : es.length ≤ 8)
    (hq : ∀ h' tk, (∀ b o, b ≠ D → b ≠ it → s.heap.get? b = some o → h'.get? b = some o) → h'.IsListIter it l (i + 1) → h'.get? D = some (dictOf (es ++ [dent w x t v]) (ep + 1)) →
      codeAny (model prog w) A (loopC D it (i + 1 : Nat)) R { s with heap := h', toks := tk }) :
    codeAny (model prog w) A (loopC D it (i : Nat)) R s := by
  refine codeAny_builtin entry_dict_loop ?_
  rw [Around.under_plainId plain_dict_loop _]
  show wpAny _ A.in1 (pyNext (.ref it) >>= _) _ _ s
  refine wpAny_bind (wpAny_pyNext_list_item hi ⟨_, hl, rfl, n, rfl⟩ hx fun h' hit' hs => ?_)
  have hp' := (hs.2 p hpi).trans hp
  have hd' := (hs.2 D hDi).trans hd
  refine wpAny_bind (wpAny_holding ?_)
  unfold Builtin.Dict.pairItems
  refine wpAny_bind (wpAny_tryCatch ?_)
  refine wpAny_bind (wpAny_typeOf (T := "tuple") ⟨_, hp', rfl⟩ ?_)
  rw [if_pos (by decide)]
  refine wpAny_bind (wpAny_seqItems hp' rfl (wpAny_pure ?_))
  refine wpAny_holding (dset hd' hk hz fun h'' tk hd'' hs'' => ?_)
  refine wpAny_pure ⟨plainId_quiet plain_dict_loop _, ?_⟩
  have := hq h'' tk (fun b o h1 h2 e => (hs''.2 b h1).trans ((hs.2 b h2).trans e)) (hit'.at fun o e => (hs''.2 it hDi.symm).trans e) hd''
  exact this
theorem loop_end {R : Result → Shared → Prop} {D it l : Addr} {i : Nat} {xs : Array Value} {n : Nat} (hh : A.handled = none)
    (hl : s.heap.get? l = some (listO xs n)) (hx : xs[i]? = none) (hi : s.heap.IsListIter it l i)
    (hq : ∀ h' tk, Heap.ExtBut it s.heap h' → R (.ok (.ret .none)) { s with heap := h', toks := tk }) :
    codeAny (model prog w) A (loopC D it (i : Nat)) R s := by
  refine codeAny_builtin entry_dict_loop ?_
  rw [Around.under_plainId plain_dict_loop _]
  show wpAny _ A.in1 (pyNext (.ref it) >>= _) _ _ s
  refine wpAny_bind (wpAny_pyNext_list_end hh hi ⟨_, hl, rfl, n, rfl⟩ hx fun h' hs => ?_)
  exact wpAny_bind (wpAny_pure (wpAny_pure (hq h' s.toks hs)))
theorem dict_start {l : Addr} {xs : Array Value} {n : Nat} {Q : Value → Shared → Prop} (hA : A.handled = none) (hl : s.heap.get? l = some (listO xs n))
    (hq : ∀ h' tk D it, (∀ b o, s.heap.get? b = some o → h'.get? b = some o) → s.heap.get? D = none → s.heap.get? it = none → D ≠ it → h'.get? D = some (dictOf [] 0) → h'.IsListIter it l 0 →
      codeAny (model prog w) A.in1 (loopC D it (0 : Nat)) (wants (fun r s₂ => r = .none ∧ Q (.ref D) s₂) E) { s with heap := h', toks := tk }) :
    wpAny (model prog w) A (call (.type "dict") [.ref l]) Q E s := by
  obtain ⟨h, g, d, tk, os⟩ := s
  refine callType_codes (Q₁ := fun obj s₁ => obj = .ref h.objs.size ∧ s₁ = ⟨h.push { cls := .type "dict", data := .dict #[] }, g, d, tk, os⟩) PySem.F.kt_called_dict (PySem.F.kt_typeCall_dict_1 _) PySem.F.entry_dict_init (kt_code_dict_new _ ⟨rfl, rfl⟩) ?_
  rintro obj s₁ ⟨rfl, rfl⟩
  have up : ∀ b o, h.get? b = some o → (h.push { cls := .type "dict", data := .dict #[] }).get? b = some o := fun b o e => Heap.get?_push_of_some _ e
  have hD : (h.push { cls := .type "dict", data := .dict #[] }).get? h.objs.size = some (dictOf [] 0) := Heap.get?_push_at rfl rfl
  have hT : (⟨h.push { cls := .type "dict", data := .dict #[] }, g, d, tk, os⟩ : Shared).TypeIs (.ref h.objs.size) "dict" := ⟨_, hD, rfl⟩
  refine ⟨hT, PySem.F.args_dict_init_2 _ _, ?_⟩
  unfold Builtin.«dict.__init__»
  refine wpAny_bind ?_
  unfold Builtin.Dict.selfAndRest
  refine wpAny_bind (wpAny_notOrdered_dict hT ?_)
  show wpAny _ _ (pure (h.objs.size, [Value.ref l])) _ _ _
  refine wpAny_pure ?_
  show wpAny _ _ (Builtin.Dict.updateFrom "dict.__init__" h.objs.size (.ref l) [] .none) _ _ _
  unfold Builtin.Dict.updateFrom
  refine wpAny_bind (wpAny_typeOf (T := "list") ⟨_, up _ _ hl, rfl⟩ ?_)
  rw [if_pos (by decide)]
  refine wpAny_bind (keys_miss (up _ _ hl) hA fun h1 tk1 k1 => ?_)
  rw [if_pos (by decide)]
  refine wpAny_bind (wpAny_rule ?_)
  refine wpAny_bind (wpAny_pyIter_list ⟨_, k1 _ _ (up _ _ hl), rfl, n, rfl⟩ ?_)
  refine wpAny_pure ⟨plainId_quiet plain_dict_loop _, ?_⟩
  have hlt : h.objs.size < h1.objs.size := Heap.lt_size (k1 _ _ hD)
  exact hq (h1.push { cls := .type "list_iterator", data := .fields #[.ref l, .int 0 0] }) tk1 h.objs.size h1.objs.size (fun b o e => Heap.get?_push_of_some _ (k1 _ _ (up _ _ e))) (Heap.get?_none_of_le (Nat.le_refl _))
    (Heap.get?_none_of_le (Nat.le_of_lt hlt)) (Nat.ne_of_lt hlt) (Heap.get?_push_of_some _ (k1 _ _ hD)) ⟨_, Heap.get?_push_at rfl rfl, rfl, rfl⟩
end
theorem dict1_w {w : World} {dp un : Nat} {fr : Option (List Env)} {gd : Option (List Code)} {h₀ : Heap} {L : Addr} {m : Str → Option Value} {s : Shared} {Q E : Value → Shared → Prop} {news : List (Addr × Obj)} {l : Addr} {n : Nat} {p1 : Addr} {b1 : Array UInt8} {k1 u1 : Tok}
  (F : Fr h₀ L s.heap m) (X : (Mine.hd.heap_39 w.params).In h₀) (N : News h₀ L s.heap news) (ml : (l, W.listOf #[.ref p1] n) ∈ news) (m1 : (p1, seqObj "tuple" #[.str (Str.ofString "cmap") k1, .bytes b1 u1] 0) ∈ news)
  (hd : dp ≤ 500) (hu : un ≤ 2000)
  (hret : ∀ a h' tk', Fr h₀ L h' m → News h₀ L h' ((a, dictOf [⟨PyData.keyHash w.params (Str.ofString "cmap"), .str (Str.ofString "cmap") k1, .bytes b1 u1⟩] 1) :: news) → (∀ p ∈ news, p.1 ≠ a) → Q (.ref a) { s with heap := h', toks := tk' }) :
  wpAny (model PySem.Challenge.rw_pb0178_01.row.prog w) { handled := none, depth := dp, frames := fr, guards := gd, units := un } (call (.type "dict") [.ref l]) Q E s := by
  have gl := N.get ml
  have g1 := N.get m1
  refine dict_start rfl gl fun h' tk D it k hD hi hne dD dI => ?_
  have ne : ∀ {b o}, s.heap.get? b = some o → b ≠ D ∧ b ≠ it := fun e => ⟨(fun q => by rw [q, hD] at e; exact Option.some_ne_none _ e.symm), (fun q => by rw [q, hi] at e; exact Option.some_ne_none _ e.symm)⟩
  refine loop_step (s := ⟨h', _, _, _, _⟩) (k _ _ gl) (k _ _ g1) rfl dI dD (ne gl).1 (ne gl).2 (ne g1).1 (ne g1).2 hne (fun _ h => nomatch h) (Nat.le_of_ble_eq_true rfl) fun h2 t2 k2 i2 d2 => ?_
  refine loop_end (s := ⟨h2, _, _, _, _⟩) rfl (k2 _ _ (ne gl).1 (ne gl).2 (k _ _ gl)) rfl i2 fun h3 t3 e3 => ?_
  obtain ⟨F', N', hne⟩ := new_news F N (fun b o e => e3 _ _ (ne e).2 (k2 _ _ (ne e).1 (ne e).2 (k _ _ e))) hD (e3 _ _ hne d2)
  exact ⟨rfl, hret D h3 t3 F' N' hne⟩
theorem dict2_w {w : World} {dp un : Nat} {fr : Option (List Env)} {gd : Option (List Code)} {h₀ : Heap} {L : Addr} {m : Str → Option Value} {s : Shared} {Q E : Value → Shared → Prop} {news : List (Addr × Obj)} {l : Addr} {n : Nat} {p1 : Addr} {b1 : Array UInt8} {k1 u1 : Tok} {p2 : Addr} {b2 : Array UInt8} {k2 u2 : Tok}
  (F : Fr h₀ L s.heap m) (X : (Mine.hd.heap_39 w.params).In h₀) (N : News h₀ L s.heap news) (ml : (l, W.listOf #[.ref p1, .ref p2] n) ∈ news) (m1 : (p1, seqObj "tuple" #[.str (Str.ofString "cmap") k1, .bytes b1 u1] 0) ∈ news) (m2 : (p2, seqObj "tuple" #[.str (Str.ofString "post") k2, .bytes b2 u2] 0) ∈ news)
  (hd : dp ≤ 500) (hu : un ≤ 2000)
  (hret : ∀ a h' tk', Fr h₀ L h' m → News h₀ L h' ((a, dictOf [⟨PyData.keyHash w.params (Str.ofString "cmap"), .str (Str.ofString "cmap") k1, .bytes b1 u1⟩, ⟨PyData.keyHash w.params (Str.ofString "post"), .str (Str.ofString "post") k2, .bytes b2 u2⟩] 2) :: news) → (∀ p ∈ news, p.1 ≠ a) → Q (.ref a) { s with heap := h', toks := tk' }) :
  wpAny (model PySem.Challenge.rw_pb0178_01.row.prog w) { handled := none, depth := dp, frames := fr, guards := gd, units := un } (call (.type "dict") [.ref l]) Q E s := by
  have gl := N.get ml
  have g1 := N.get m1
  have g2 := N.get m2
  refine dict_start rfl gl fun h' tk D it k hD hi hne dD dI => ?_
  have ne : ∀ {b o}, s.heap.get? b = some o → b ≠ D ∧ b ≠ it := fun e => ⟨(fun q => by rw [q, hD] at e; exact Option.some_ne_none _ e.symm), (fun q => by rw [q, hi] at e; exact Option.some_ne_none _ e.symm)⟩
  refine loop_step (s := ⟨h', _, _, _, _⟩) (k _ _ gl) (k _ _ g1) rfl dI dD (ne gl).1 (ne gl).2 (ne g1).1 (ne g1).2 hne (fun _ h => nomatch h) (Nat.le_of_ble_eq_true rfl) fun h2 t2 k2 i2 d2 => ?_
  refine loop_step (s := ⟨h2, _, _, _, _⟩) (k2 _ _ (ne gl).1 (ne gl).2 (k _ _ gl)) (k2 _ _ (ne g2).1 (ne g2).2 (k _ _ g2)) rfl i2 d2 (ne gl).1 (ne gl).2 (ne g2).1 (ne g2).2 hne
    (fun e h => ⟨_, _, _, List.mem_singleton.mp h, by decide⟩) (Nat.le_of_ble_eq_true rfl) fun h3 t3 k3 i3 d3 => ?_
  refine loop_end (s := ⟨h3, _, _, _, _⟩) rfl (k3 _ _ (ne gl).1 (ne gl).2 (k2 _ _ (ne gl).1 (ne gl).2 (k _ _ gl))) rfl i3 fun h4 t4 e4 => ?_
  obtain ⟨F', N', hne⟩ := new_news F N (fun b o e => e4 _ _ (ne e).2 (k3 _ _ (ne e).1 (ne e).2 (k2 _ _ (ne e).1 (ne e).2 (k _ _ e)))) hD (e4 _ _ hne d3)
  exact ⟨rfl, hret D h4 t4 F' N' hne⟩
end Mine
end
section
open PySem PySem.W PyProof.Rows PySem.Calls
namespace Mine
theorem fillKE : PySem.Challenge.rw_pb0178_01 = PySem.Challenge.rw_pb0178_01 ∧ Mine.hd.heap_39 = Mine.hd.heap_39 := by
  k_fill
  exact ⟨rfl, rfl⟩
section
variable {w : World} {A : Around} {E : Value → Shared → Prop} {h : Heap} {g : Array GenState} {d : Drawn} {t : Nat} {os : OsState}
noncomputable abbrev bmF : List Value := [.ref 48, .type "Exception", .type "BaseException", .type "object"]
noncomputable abbrev clsF : Obj := excClassObj (Str.ofString "FontFault") (Str.ofString "FontFault") 73 72 [.ref 48] bmF true [] [] false none none (some (.ref 64)) none (some (.str (Str.ofString "FontFault") 254)) (some (.str (Str.ofString "FontFault") 262)) (some (.bool true)) "Exception.__new__"
theorem look73 (P : Params) : List.lookup 73 (Mine.hd.heap_39 P) = some clsF := by kernel_rfl
theorem in73 (X : (Mine.hd.heap_39 w.params).In h) : h.get? 73 = some clsF := X _ _ (look73 _)
theorem hasExc : (Value.ref 73 :: bmF).contains (.type "Exception") = true := by decide
theorem hasAtt : (Value.ref 73 :: bmF).contains (.type "AttributeError") = false := by decide
theorem hasNam : (Value.ref 73 :: bmF).contains (.type "NameError") = false := by decide
theorem hasBas : (Value.ref 73 :: bmF).contains (.type "BaseException") = true := by decide
noncomputable abbrev prg : Program := PySem.Challenge.rw_pb0178_01.row.prog
theorem ff_check_new {M : Model} {rest : List Value} {Q : Unit → Shared → Prop} (hC : h.get? 73 = some clsF) (hq : Q () ⟨h, g, d, t, os⟩) :
    wpAny M A (checkBuiltinCall "Exception.__new__" ⟨.ref 73 :: rest, []⟩) Q E ⟨h, g, d, t, os⟩ := by
  have G := F.excBase_Exception
  have hstar := G.noStar
  simp only [checkBuiltinCall, G.newKind, G.newSplit, G.newRow]
  repeat (first | refine wpAny_loadPart_at hC ?_ | (refine wpAny_isSubtype_exc hC ?_; rw [hasExc]) | refine wpAny_staticBase_exc hC ?_ | refine wpAny_madeBy_exc hC ?_ | simp only [bne_self_eq_false, Bool.false_eq_true, if_false] | wp_step)
  exact hq
theorem ff_new {prog : Program} {R : Result → Shared → Prop} {rest : List Value} (hC : h.get? 73 = some clsF)
    (hq : R (.ok (.ret (.ref (h.objs.size + 1)))) ⟨(h.push { cls := .type "tuple", data := .seq rest.toArray }).push
      { cls := .ref 73, data := .fields #[.ref h.objs.size, .none, .none, .none, .bool false, .none] }, g, d, t, os⟩) (hrest : rest.length ≤ sizeLine := by size_fits) :
    codeAny (model prog w) A (.builtin "Exception.__new__" ⟨.ref 73 :: rest, []⟩) R ⟨h, g, d, t, os⟩ := by
  have G := F.excBase_Exception
  have hends := G.ends
  refine codeAny_builtinAt G.entry ?_
  unfold Builtin.«BaseException.__new__»
  refine PySem.wpAt_bind ?_
  show PySem.wpAt _ _ _ (stack >>= _) _ _ _
  refine PySem.wpAt_bind (PySem.wpAt_stack fun p below => PySem.wpAt_of_wpAny ?_)
  wp_walk
  refine PySem.wpAt_of_wpAny ?_
  rw [G.owner]
  repeat (first | with_reducible refine wpAny_madeHere_exc G.canon hC ?_ | with_reducible refine wpAny_loadPart_at hC ?_ | (with_reducible refine wpAny_isSubtype_exc hC ?_; first | rw [hasExc] | rw [hasAtt] | rw [hasNam]) | wp_step)
  show R _ _
  rw [Heap.size_push]
  exact hq
theorem ff_type_call {rest : List Value} {Q : Fin → Shared → Prop} (X : (Mine.hd.heap_39 w.params).In h)
    (hq : ∀ h' e, Heap.MadeExcOf h h' e (.ref 73) rest →
      wpAny (model prg w) A (call (.ref 38) (.ref e :: rest)) (fun r s' => r = .none ∧ Q (.done (.ret (.ref e))) s') E ⟨h', g, d, t, os⟩) (hrest : rest.length ≤ sizeLine := by size_fits) :
    wpAny (model prg w) A (Builtin.«type.__call__» ⟨.ref 73 :: rest, []⟩) Q E ⟨h, g, d, t, os⟩ := by
  have hC := in73 X
  repeat (first | with_reducible refine wpAny_loadPart_at hC ?_ | with_reducible refine wpAny_madeBy_exc hC ?_ | wp_step)
  refine codeAny_call_builtin_code (Code.quiet_builtin _ F.excBase_Exception.quiet) (ff_check_new hC ?_)
  refine ff_new hC ?_ hrest
  show wpAny _ _ _ _ _ _
  have up : ∀ b o, h.get? b = some o → ((h.push { cls := .type "tuple", data := .seq rest.toArray }).push
      { cls := .ref 73, data := .fields #[.ref h.objs.size, .none, .none, .none, .bool false, .none] }).get? b = some o := fun b o q => Heap.get?_push_of_some _ (Heap.get?_push_of_some _ q)
  have X₁ := X.keeps up
  have hC₁ := up _ _ hC
  have hget : ((h.push { cls := .type "tuple", data := .seq rest.toArray }).push
      { cls := .ref 73, data := .fields #[.ref h.objs.size, .none, .none, .none, .bool false, .none] }).get? (h.objs.size + 1) = some
      { cls := .ref 73, data := .fields #[.ref h.objs.size, .none, .none, .none, .bool false, .none] } := by heap_get
  have hcC : (Value.ref 73 :: bmF).contains (.ref 73) = true := by decide
  unfold isInstance
  repeat (first | with_reducible refine wpAny_loadPart_at hget ?_ | (with_reducible refine wpAny_isSubtype_exc hC₁ ?_; rw [hcC]) | wp_step)
  have hti : findIn (Mine.hd.heap_39 w.params) (.ref 73) "__init__" = some (some (.ref 38)) := by k_is
  have htf : typeIn (Mine.hd.heap_39 w.params) (.ref 38) = some (.type "function") := by k_is
  show wpAny _ _ (typeLookup (.ref 73) _) _ _ _
  refine Looks.at (looks_findIn X₁ hti) ?_
  refine wpAny_holding (wpAny_bind ?_)
  unfold bindSpecial
  refine wpAny_bind (Looks.at (looks_typeIn X₁ htf) ?_)
  rw [if_pos (by decide)]
  refine wpAny_pure (wpAny_bind (wpAny_mono (hq _ (h.objs.size + 1) ⟨up, Heap.get?_none_of_le (Nat.le_succ _), h.objs.size, hget, Heap.get?_none_of_le (Nat.le_refl _), ?_⟩) (fun r s' hr => ?_) fun _ _ x => x))
  · exact Heap.get?_push_of_some _ (Heap.get?_push_at rfl rfl)
  · obtain ⟨rfl, hQ⟩ := hr
    wp_walk
    exact hQ
theorem ff_call {rest : List Value} {Q : Value → Shared → Prop} (X : (Mine.hd.heap_39 w.params).In h)
    (hq : ∀ h' e, Heap.MadeExcOf h h' e (.ref 73) rest →
      wpAny (model prg w) (A.under (.builtin "type.__call__" ⟨.ref 73 :: rest, []⟩)) (call (.ref 38) (.ref e :: rest)) (fun r s' => r = .none ∧ Q (.ref e) s') E ⟨h', g, d, t, os⟩) (hrest : rest.length ≤ sizeLine := by size_fits) :
    wpAny (model prg w) A (call (.ref 73) rest) Q E ⟨h, g, d, t, os⟩ := by
  have hC := in73 X
  have f1 := tc_lookup
  have f2 := tc_bind (.ref 73)
  have hT : (⟨h, g, d, t, os⟩ : Shared).TypeIs (.ref 73) "type" := ⟨_, hC, rfl⟩
  refine wpAny_call (codeAny_of_tree ?_)
  show wpAny _ _ (callAny (.ref 73) _) _ _ _
  repeat (any_goals (first | assumption | with_reducible refine wpAny_loadPart_at hC ?_ | wp_step))
  refine ⟨rfl, ?_⟩
  refine codeAny_call_builtin_at (Code.quiet_builtin _ (by decide +kernel)) entry_typeCall (wpAny_check_type_call_sub hC (ff_type_call (hrest := hrest) X fun h' e hm => ?_))
  exact hq h' e hm
open Builtin Builtin.ObjectAttr
noncomputable def StoredE (h h' : Heap) (x : Addr) : Prop :=
  (∀ b o, b ≠ x → (∀ o₀ dx, h.get? x = some o₀ → o₀.dict = some dx → b ≠ dx) → h.get? b = some o → h'.get? b = some o) ∧
  (∀ o₀, h.get? x = some o₀ → ∃ o₁, h'.get? x = some o₁ ∧ o₁.cls = o₀.cls ∧ o₁.data = o₀.data ∧ o₁.slots = o₀.slots ∧ ∀ dx, o₀.dict = some dx → o₁.dict = some dx) ∧
  (∀ o₁ dx, h'.get? x = some o₁ → o₁.dict = some dx → h.get? dx = none ∨ ∃ o₀, h.get? x = some o₀ ∧ o₀.dict = some dx)
theorem ff_store {x : Addr} {mA : Str → Option Value} {name : Str} {v : Value} {tk : Tok} {Q : Fin → Shared → Prop} {ns : List Str} (X : (Mine.hd.heap_39 w.params).In h)
    (hl : findIn (Mine.hd.heap_39 w.params) (.ref 73) name = some none) (I : h.Inst x 73 mA)
    (hq : ∀ h' tk', h'.Inst x 73 (fun y => if y = name then some v else mA y) → StoredE h h' x → Q (.done (.ret .none)) ⟨h', g, d, tk', os⟩)
    (hw : Within mA ns) (hsz : ns.length < sizeLine) :
    wpAny (model prg w) A (Builtin.«object.__setattr__» ⟨[.ref x, .str name tk, v], []⟩) Q E ⟨h, g, d, t, os⟩ := by
  obtain ⟨o, hx, hc, hnc, hd⟩ := I
  have hC := in73 X
  have hpass := F.store_Exception.passes (.ref x)
  unfold Builtin.«object.__setattr__»
  repeat (first | rw [refuse_eq] | (rw [refuseLoop_ref, refuseLoop_ref, hpass]) | (with_reducible refine wpAny_loadPart_at hx ?_; rw [hc]) | with_reducible refine wpAny_mroOf_exc hC ?_ | (with_reducible refine Looks.at (looks_findIn X hl) ?_) | wp_step)
  rcases hd with ⟨hdn, hmA⟩ | ⟨dx, hdx, hne, hns⟩
  · rw [hdn, if_neg (by simp [typeHasDict])]
    split
    · rename_i hcd
      cases hcd
    split
    · rename_i c hcd
      exact absurd hcd (hnc c)
    · have hx₁ : (h.push { cls := .type "dict", data := .dict #[] }).get? x = some o := Heap.get?_push_of_some _ hx
      have hxs : x ≠ h.objs.size := Nat.ne_of_lt (Heap.lt_size hx)
      refine wpAny_bind (wpAny_alloc' (wpAny_bind (wpAny_update' hx₁ (wpAny_pure ?_))))
      have hnd : ((h.push { cls := .type "dict", data := .dict #[] }).update x fun o => { cls := o.cls, dict := some h.objs.size, data := o.data, slots := o.slots }).Ns h.objs.size (fun _ => none) :=
        ⟨_, #[], _, (Heap.get?_update_ne _ _ _ _ hxs.symm).trans (Heap.get?_push_at rfl rfl), rfl, fun e he => absurd he (by simp), fun _ => rfl⟩
      show wpAny _ _ (storeInDict h.objs.size (.str name tk) name v) _ _ _
      unfold storeInDict newKeyGuard
      refine wpAny_bind (wpAny_pure (wpAny_bind (wpAny_nsSet1 (Heap.Ns1.of_empty hnd) fun h' hn' hs => ?_)))
      obtain ⟨oD, esD, epD, hoD, hdD, hcD⟩ := hn'.count (Within.cons name v Within.nil)
      refine wpAny_bind (wpAny_lookBehind hoD (by rw [hdD]; exact pastItsLine_dict (Nat.le_trans hcD (by rw [List.length_cons, List.length_nil, sizeLine_eq]; lia))) ?_)
      wp_walk
      have hx' : h'.get? x = some { cls := o.cls, dict := some h.objs.size, data := o.data, slots := o.slots } := by
        refine (hs.2 x hxs).trans (Heap.get?_update_self _ hx₁ ?_)
        have hfr := (Heap.get?_some_iff.mp hx).2
        obtain ⟨oc, od, odt, osl⟩ := o
        cases odt <;> first | rfl | exact hfr
      refine hq h' _ ⟨_, hx', hc, hnc, .inr ⟨h.objs.size, rfl, hxs.symm, ?_⟩⟩ ⟨fun b ob hbx _ hb => ?_,
        fun o₀ h₀ => by obtain rfl : o = o₀ := Option.some.inj (hx.symm.trans h₀); exact ⟨_, hx', rfl, rfl, rfl, fun dx e => by rw [hdn] at e; cases e⟩,
        fun o₁ dx e1 e2 => by
          rw [hx'] at e1
          cases e1
          cases e2
          exact .inl (Heap.get?_none_of_le (Nat.le_refl _))⟩
      · obtain ⟨o', es, ep, e1, e2, e3, eu, e4⟩ := hn'
        exact ⟨o', es, ep, e1, e2, e3, eu, fun y => by rw [e4 y]; by_cases hy : y = name <;> simp [hy, hmA]⟩
      · exact (hs.2 b (Nat.ne_of_lt (Heap.lt_size hb))).trans ((Heap.get?_update_ne _ _ _ _ hbx).trans (Heap.get?_push_of_some _ hb))
  · rw [hdx]
    refine wpAny_pure ?_
    show wpAny _ _ (storeInDict dx (.str name tk) name v) _ _ _
    unfold storeInDict newKeyGuard
    refine wpAny_bind (wpAny_pure (wpAny_bind (wpAny_nsSet1 hns fun h' hn' hs => ?_)))
    obtain ⟨oD, esD, epD, hoD, hdD, hcD⟩ := hn'.count (Within.cons name v hw)
    refine wpAny_bind (wpAny_lookBehind hoD (by rw [hdD]; exact pastItsLine_dict (Nat.le_trans hcD (by rw [List.length_cons]; lia))) ?_)
    wp_walk
    refine hq h' _ ⟨o, (hs.2 x hne.symm).trans hx, hc, hnc, .inr ⟨dx, hdx, hne, hn'⟩⟩ ⟨fun b ob _ hbd hb => ?_,
      fun o₀ h₀ => ⟨o₀, (hs.2 x hne.symm).trans h₀, rfl, rfl, rfl, fun _ e => e⟩, fun o₁ dx e1 e2 => .inr ⟨o₁, (hs.2 x hne.symm).symm.trans e1, e2⟩⟩
    exact (hs.2 b (hbd o dx hx hdx)).trans hb
theorem ff_check_sa {M : Model} {x : Addr} {o : Obj} {nameV v : Value} {Q : Unit → Shared → Prop} (hC : h.get? 73 = some clsF) (hx : h.get? x = some o) (hc : o.cls = .ref 73) (hq : Q () ⟨h, g, d, t, os⟩) :
    wpAny M A (checkBuiltinCall "object.__setattr__" ⟨[.ref x, nameV, v], []⟩) Q E ⟨h, g, d, t, os⟩ := by
  have SF := F.store_Exception
  have hcB : (Value.ref 73 :: bmF).contains (.type "object") = true := by decide
  simp only [checkBuiltinCall, SF.kind, SF.split]
  refine wpAny_bind ?_
  unfold isInstance
  repeat (first | (with_reducible refine wpAny_loadPart_at hx ?_; rw [hc]) | (with_reducible refine wpAny_isSubtype_exc hC ?_; rw [hcB]) | wp_step)
  exact hq
theorem ff_setAttr {x : Addr} {mA : Str → Option Value} {name : Str} {v : Value} {Q : Unit → Shared → Prop} {ns : List Str} (X : (Mine.hd.heap_39 w.params).In h)
    (hl : findIn (Mine.hd.heap_39 w.params) (.ref 73) name = some none) (I : h.Inst x 73 mA)
    (hq : ∀ h' tk', h'.Inst x 73 (fun y => if y = name then some v else mA y) → StoredE h h' x → Q () ⟨h', g, d, tk', os⟩)
    (hw : Within mA ns) (hsz : ns.length < sizeLine) :
    wpAny (model prg w) A (setAttr (.ref x) name v) Q E ⟨h, g, d, t, os⟩ := by
  obtain ⟨o, hx, hc, _⟩ := id I
  have hC := in73 X
  have SF := F.store_Exception
  have f3 := SF.slot.bind (.ref x)
  have hls : findIn (Mine.hd.heap_39 w.params) (.ref 73) "__setattr__" = some (some (.builtin "object.__setattr__")) := by k_is
  unfold setAttr callSpecial? specialOf
  repeat (any_goals (first | assumption | (with_reducible refine wpAny_loadPart_at hx ?_; rw [hc]) | (with_reducible refine Looks.at (looks_findIn X hls) ?_) | wp_step))
  refine codeAny_call_builtin SF.slot.plain SF.entry (ff_check_sa hC hx hc (ff_store X hl I (fun h' tk' I' st => ?_) hw hsz))
  repeat (any_goals (first | assumption | wp_step))
  exact hq h' tk' I' st
end
end Mine
end
section
open PySem PySem.W PySem.W.X PyProof.Rows PySem.Calls
namespace Mine
theorem part1 : True := by
  w_top off
  trivial
noncomputable abbrev mwObj (x : Addr) : Obj := { cls := .type "method-wrapper", data := .fields #[.builtin "Exception.__init__", .ref x] }
noncomputable abbrev newE (t : Addr) : Obj := { cls := .ref 73, data := .fields #[.ref t, .none, .none, .none, .bool false, .none] }
local macro_rules | `(tactic| x_close) => `(tactic| (refine xend (by assumption) (by assumption) ?_; exact ⟨_, rfl, List.mem_singleton.mpr rfl⟩))
section
variable {w : World} {A : Around} {E : Value → Shared → Prop} {h : Heap} {g : Array GenState} {d : Drawn} {t : Nat} {os : OsState}
set_option maxRecDepth 100000 in
set_option maxHeartbeats 8000000 in
theorem ff_bind0 {fr : Option (List Env)} {gd : Option (List Code)} {Q : Value → Shared → Prop} {e ta : Addr}
  (KX : (Mine.hd.heap_39 w.params).In h) (he : h.get? e = some { cls := .ref 73, data := .fields #[.ref ta, .none, .none, .none, .bool false, .none] }) (hx : XEnd h g d os Q (fun v news => ∃ a, v = .ref a ∧ (a, mwObj e) ∈ news)) :
  wpAny (model PySem.Challenge.rw_pb0178_01.row.prog w) { handled := none, depth := 500, frames := fr, guards := gd, units := 2000 } (call (.builtin "wrapper_descriptor.__get__") [.builtin "Exception.__init__", .ref e, .ref 73]) Q E ⟨h, g, d, t, os⟩ := by
  x_run
theorem ff_init {x ta mw : Addr} {rest : List Value} {Q : Value → Shared → Prop} (X : (Mine.hd.heap_39 w.params).In h) (hx : h.get? x = some (newE ta)) (hm : h.get? mw = some (mwObj x))
    (hq : ∀ h' tk', h'.get? x = some (newE h.objs.size) → h'.get? h.objs.size = some { cls := .type "tuple", data := .seq rest.toArray } → (∀ b o, b ≠ x → h.get? b = some o → h'.get? b = some o) → Q .none ⟨h', g, d, tk', os⟩)
    (hrest : rest.length ≤ sizeLine := by size_fits) :
    wpAny (model prg w) A (call (.ref mw) rest) Q E ⟨h, g, d, t, os⟩ := by
  have G := F.excBase_Exception
  have hC := in73 X
  refine wpAny_call (codeAny_of_tree ?_)
  show wpAny _ _ (callAny (.ref mw) _) _ _ _
  unfold callAny
  refine wpAny_bind (wpAny_load hm ?_)
  show wpAny _ _ (do checkBoundCall "Exception.__init__" ⟨.ref x :: rest, []⟩; again (.builtin "Exception.__init__" ⟨.ref x :: rest, []⟩)) _ _ _
  have hshort := G.noStar
  have hi := G.initKind
  have hr := G.initRow
  refine wpAny_bind ?_
  simp only [checkBoundCall, G.initKind, G.initRow]
  repeat wp_step
  refine wpAny_onRaise ?_
  rw [show ∀ (a b : String) (n : Nat), Bind.check ⟨.positional, "*", "Exception", .self, [⟨"args", .varPos, false⟩]⟩ a b n (List.map (fun x => x.fst) ({ pos := Value.ref x :: rest } : Args).kw) = pure () from
    fun a b n => check_star_args _ _ _ _ _ _]
  refine wpAny_pure ?_
  refine wpAny_pure ⟨Code.quiet_builtin _ (by decide +kernel), codeAny_builtin G.initEntry ?_⟩
  wp_walk
  have hxs : x ≠ h.objs.size := Nat.ne_of_lt (Heap.lt_size hx)
  refine hq _ _ ?_ ?_ fun b o hb e => ?_
  · rw [Heap.get?_update_self _ (Heap.get?_push_of_some _ hx) rfl]
    rfl
  · rw [Heap.get?_update_other _ _ hxs]
    exact Heap.get?_push_at rfl rfl
  · rw [Heap.get?_update_ne _ _ _ _ hb]
    exact Heap.get?_push_of_some _ e
theorem ff_wlook : typeLookup (.type "wrapper_descriptor") "__get__" = pure (some (.builtin "wrapper_descriptor.__get__")) := by rw [typeLookup_type, builtinLookup_eq_fast]; kernel_rfl
theorem ff_wtype : typeOf (.builtin "Exception.__init__") = pure (.type "wrapper_descriptor") := by kernel_rfl
theorem ff_along (K : Frag) : alongIn K "__init__" [.type "Exception", .type "BaseException", .type "object"] = some (some (.builtin "Exception.__init__")) := by kernel_rfl
theorem ff_drop : ((Value.ref 73 :: bmF).dropWhile (· != .ref 48)).drop 1 = [.type "Exception", .type "BaseException", .type "object"] := by decide
noncomputable def BoundE (h : Heap) (g : Array GenState) (d : Drawn) (os : OsState) (x : Addr) (r : Value) (s' : Shared) : Prop :=
  ∃ a h' t', r = .ref a ∧ s' = ⟨h', g, d, t', os⟩ ∧ (∀ b o, h.get? b = some o → h'.get? b = some o) ∧ h'.get? a = some (mwObj x) ∧ h.get? a = none
theorem ff_bind {x ta : Addr} {Q : Value → Shared → Prop} (X : (Mine.hd.heap_39 w.params).In h) (he : h.get? x = some (newE ta)) (ha : A.handled = none) (hd : A.depth ≤ 500) (hu : A.units ≤ 2000) (hq : ∀ r s', BoundE h g d os x r s' → Q r s') :
    wpAny (model prg w) A (call (.builtin "wrapper_descriptor.__get__") [.builtin "Exception.__init__", .ref x, .ref 73]) Q E ⟨h, g, d, t, os⟩ := by
  refine wp_lift (dp := 500) (un := 2000) ?_ hd hu
  rw [ha]
  refine ff_bind0 X he fun v h' t' news D p => ?_
  obtain ⟨a, rfl, hm⟩ := p
  exact hq _ _ ⟨a, h', t', rfl, rfl, mem_keep D, (D.nw _ hm).1, (D.nw _ hm).2⟩
theorem ff_super_ga {so x D C : Addr} {K : Frag} {l₀ l : List Value} {name : Str} {v : Value} {tk : Tok} {Q : Fin → Shared → Prop} (X : K.In h)
    (hso : h.get? so = some (ks_superObj D x C)) (hno : Looks (model prg w) h (opaqueClassAbove (.ref C)) none)
    (hC : Looks (model prg w) h (mroOf (.ref C)) l₀) (hl : (l₀.dropWhile (· != .ref D)).drop 1 = l)
    (hf : alongIn K name l = some (some v)) (hxC : x ≠ C) (hn : (name == ("__class__" : Str)) = false)
    (ht : typeOf v = pure (.type "wrapper_descriptor"))
    {R : Value → Shared → Prop}
    (hb : ∀ {E t} {Q' : Value → Shared → Prop}, (∀ r s', R r s' → Q' r s') → wpAny (model prg w) A (call (.builtin "wrapper_descriptor.__get__") [v, .ref x, .ref C]) Q' E ⟨h, g, d, t, os⟩)
    (hq : ∀ r s', R r s' → Q (.done (.ret r)) s') :
    wpAny (model prg w) A (Builtin.«super.__getattribute__» ⟨[.ref so, .str name tk], []⟩) Q E ⟨h, g, d, t, os⟩ := by
  have hne : (Value.ref x == Value.ref C) = false := by simp [hxC]
  have hdt : (ks_superObj D x C).data = .fields #[.ref D, .ref x, .ref C] := rfl
  have f0 : (#[.ref D, .ref x, .ref C] : Array Value)[0]? = some (.ref D) := rfl
  have f1 : (#[.ref D, .ref x, .ref C] : Array Value)[1]? = some (.ref x) := rfl
  have f2 : (#[.ref D, .ref x, .ref C] : Array Value)[2]? = some (.ref C) := rfl
  unfold Builtin.«super.__getattribute__»
  repeat (first
    | (with_reducible refine wpAny_field hso hdt f0 ?_) | (with_reducible refine wpAny_field hso hdt f1 ?_) | (with_reducible refine wpAny_field hso hdt f2 ?_)
    | (with_reducible refine ks_wpAny_notOpaque hno ?_)
    | (with_reducible refine Looks.at hC ?_; rw [hl])
    | (refine ks_forIn_along X (fun _ _ => rfl) rfl ?_ hf)
    | (with_reducible refine wpAny_of_eq ht ?_)
    | (with_reducible refine wpAny_of_eq ff_wlook ?_)
    | (simp only [hn, hne, Bool.or_false, Bool.false_eq_true, if_false])
    | (with_reducible refine hb ?_)
    | wp_step
    | dsimp only)
  intro r s' hr
  exact wpAny_bind (wpAny_pure (wpAny_pure (wpAny_pure (hq _ _ hr))))
theorem ff_method {so x ta : Addr} {pl : Sem Bool} {Q : Value × List Value → Shared → Prop} (X : (Mine.hd.heap_39 w.params).In h)
    (hso : h.get? so = some (ks_superObj 48 x 73)) (hx : h.get? x = some (newE ta)) (ha : A.handled = none) (hd : A.depth < 500) (hu : A.units < 1900)
    (hq : ∀ h' mw t', (∀ b o, h.get? b = some o → h'.get? b = some o) → h'.get? mw = some (mwObj x) → h.get? mw = none → Q (.ref mw, []) ⟨h', g, d, t', os⟩) :
    wpAny (model prg w) A (getMethod (.ref so) "__init__" pl) Q E ⟨h, g, d, t, os⟩ := by
  have hC := in73 X
  have ho : nsIn (Mine.hd.heap_39 w.params) cStatics "thirdparty.any" = some none := by k_is
  have hxC : x ≠ 73 := fun e => by rw [e, hC] at hx; cases hx
  have hlk := F.ks_slot_super_ga.lookup
  have hcan := F.ks_canon_super_ga
  have hT : ∀ t', (⟨h, g, d, t', os⟩ : Shared).TypeIs (.ref so) "super" := fun _ => ⟨_, hso, rfl⟩
  unfold getMethod
  refine wpAny_bind (wpAny_specialOf (hT _) hlk ?_)
  show wpAny _ _ (if (Manifest.canonical "super.__getattribute__" != "object.__getattribute__") = true then _ else _) _ _ _
  rw [if_pos hcan]
  unfold getAttr getAttrBy
  refine wpAny_bind (wpAny_bind (wpAny_mkText (wpAny_holding (wpAny_bind (wpAny_typeOf (hT _) (wpAny_bind (wpAny_of_eq hlk ?_)))))))
  show wpAny _ _ (getAttrByItsOwn (.ref so) (.str (Str.ofString "__init__") t) (.type "super") (.builtin "super.__getattribute__") true false) _ _ _
  unfold getAttrByItsOwn hookBefore callGetattribute boundAndCalled
  refine wpAny_bind (wpAny_of_eq (show (if onTheHeap (.type "super") then typeLookup (.type "super") "__getattr__" else pure none) = pure none from rfl) ?_)
  refine wpAny_bind (wpAny_attempt (wpAny_holding ?_))
  show wpAny _ _ (bindSpecial (.builtin "super.__getattribute__") (.ref so) >>= _) _ _ _
  refine wpAny_bind (wpAny_of_eq (F.ks_slot_super_ga.bind _) ?_)
  refine wpAny_mono (Q := BoundE h g d os x) (E := fun _ _ => False)
    (wpAny_call_entry F.ks_slot_super_ga (hT _) F.ks_entry_super_ga (ff_super_ga (R := BoundE h g d os x) X hso (looks_opaque X ho) (l₀ := .ref 73 :: bmF) ?_ ff_drop (ff_along _) hxC (by decide) ff_wtype (fun q => ff_bind X hx ?_ ?_ ?_ q) (fun r s' hr => ⟨_, rfl, hr⟩)) (F.ks_gaArgs_super _ _)) (fun v s' hv => ?_) fun _ _ z => z.elim
  · intro A Q E s k q
    obtain ⟨h₁, g₁, d₁, t₁, os₁⟩ := s
    exact wpAny_mroOf_exc (k _ _ hC) q
  · exact ha
  · exact Nat.le_of_lt hd
  · rw [units_in1]
    lia
  · obtain ⟨a, h', t', rfl, rfl, k, hm, hn⟩ := hv
    exact wpAny_pure (wpAny_pure (hq h' a t' k hm hn))
end
end Mine
end
section
open PySem PySem.W PyProof.Rows PySem.Calls
set_option maxRecDepth 100000
namespace Mine
section
variable {prog : Program} {w : World} {A : Around} {E : Value → Shared → Prop} {s : Shared} {h₀ : Heap} {L a : Addr} {m : Str → Option Value} {news : List (Addr × Obj)} {v : Value}
theorem list_sort_one {n : Nat} {P : PySem.Fin → Shared → Prop} (F : Fr h₀ L s.heap m) (N : News h₀ L s.heap news) (ho : s.heap.get? a = some (seqObj "list" [v].toArray n)) (haL : a ≠ L) (ha0 : h₀.get? a = none) (hna : ∀ p ∈ news, p.1 ≠ a)
    (h : ∀ c h', Fr h₀ L h' m → News h₀ L h' ((a, seqObj "list" [v].toArray c) :: news) → P (.done (.ret .none)) { s with heap := h' }) :
    wpAny (model prog w) A (Builtin.«list.sort» ⟨[.ref a], []⟩) P E s := by
  have ha : a < s.heap.objs.size := Heap.lt_size ho
  have s1 := Heap.SameBut.update s.heap a (Obj.mapSeq fun _ => (#[] : Array Value))
  obtain ⟨e1, ho1⟩ : ∃ e1, (s.heap.update a (Obj.mapSeq fun _ => (#[] : Array Value))).get? a = some (seqObj "list" #[] e1) := ⟨_, get?_update_seq ho fun _ => #[]⟩
  generalize hH : ((s.heap.update a (Obj.mapSeq fun _ => (#[] : Array Value))).push (seqObj "tuple" [v].toArray 0)).push (seqObj "list" #[] 0) = H
  have F3 : Fr h₀ L H m := hH ▸ ((kas_fr F s1 haL ha0).push _).push _
  have N2 : News h₀ L H news := hH ▸ (kas_news N s1 hna).grown fun b x e => Heap.get?_push_of_some _ (Heap.get?_push_of_some _ e)
  have na : H.get? a = some (seqObj "list" #[] e1) := hH ▸ Heap.get?_push_of_some _ (Heap.get?_push_of_some _ ho1)
  rw [list_sort_plain]
  refine wpAny_bind (listItems_at ho rfl ?_)
  refine wpAny_bind (listUpdate_at ho rfl ?_ (by rw [List.size_toArray, sizeLine_eq]; simp) (Nat.zero_le _))
  refine wpAny_bind (seqEpoch_at ho1 rfl ?_)
  refine wpAny_bind (wpAny_newTuple ?_ (by show [v].length ≤ _; rw [sizeLine_eq]; simp))
  refine wpAny_bind (wpAny_newList ?_ (Nat.zero_le _))
  refine wpAny_holding ?_
  show wpAny (model prog w) A _ P E { s with heap := ((s.heap.update a (Obj.mapSeq fun _ => (#[] : Array Value))).push (seqObj "tuple" [v].toArray 0)).push (seqObj "list" #[] 0) }
  rw [hH]
  dsimp only
  have hn2 : [v].toArray.size < 2 := by simp
  rw [if_pos hn2, if_pos hn2]
  refine wpAny_bind (wpAny_pure ?_)
  refine wpAny_bind (wpAny_pure ?_)
  dsimp only
  have hsz : ((arrOf (SortSt.mk' general' ([v].toArray.zip [v].toArray) #[] 7 none)).map (·.2)) = [v].toArray := by
    have e : arrOf (SortSt.mk' general' ([v].toArray.zip [v].toArray) #[] 7 none) = [v].toArray.zip [v].toArray := rfl
    rw [e]; simp
  generalize hX : ((arrOf (SortSt.mk' general' ([v].toArray.zip [v].toArray) #[] 7 none)).map (·.2)) = X at hsz ⊢
  subst hsz
  have s2 := Heap.SameBut.update H a (Obj.mapSeq fun _ => [v].toArray)
  obtain ⟨c2, hc2⟩ : ∃ c2, (H.update a (Obj.mapSeq fun _ => [v].toArray)).get? a = some (seqObj "list" [v].toArray c2) := ⟨_, get?_update_seq na fun _ => [v].toArray⟩
  refine wpAny_bind (seqEpoch_at na rfl ?_)
  refine wpAny_bind (listUpdate_at na rfl ?_ (Nat.zero_le _) (by rw [List.size_toArray, sizeLine_eq]; simp))
  simp only [bne_self_eq_false, Bool.false_eq_true, if_false]
  refine wpAny_pure (h c2 _ (kas_fr F3 s2 haL ha0) ?_)
  intro p hp
  rcases List.mem_cons.mp hp with rfl | hp
  · exact ⟨hc2, haL, ha0⟩
  · exact kas_news N2 s2 hna p hp
theorem sorted_one {l : Addr} {Q : Value → Shared → Prop} (F : Fr h₀ L s.heap m) (N : News h₀ L s.heap news) (hl : s.heap.IsList l [v].toArray)
    (h : ∀ D c h', Fr h₀ L h' m → News h₀ L h' ((D, seqObj "list" [v].toArray c) :: news) → (∀ q ∈ news, q.1 < D) → Q (.ref D) { s with heap := h' }) :
    wpAny (model prog w) A (call (.builtin "sorted") [.ref l]) Q E s := by
  refine Calls.call_function_entry kind_sorted plain_sorted entry_sorted (args_sorted1 _) ?_
  unfold Builtin.«sorted»
  refine wpAny_bind (m := checkCount "sorted" 1 1 _) (wpAny_pure ?_)
  refine wpAny_bind (collect_list hl ?_ (by rw [sizeLine_eq]; simp))
  refine wpAny_bind (wpAny_newList ?_ (by rw [sizeLine_eq]; simp))
  have hsz : ((s.heap.push (seqObj "list" #[] 0)).update s.heap.objs.size (Obj.mapSeq (· ++ [v].toArray))).objs.size = s.heap.objs.size + 1 := by
    rw [Heap.size_update, size_push']
  have hoL : (((s.heap.push (seqObj "list" #[] 0)).update s.heap.objs.size (Obj.mapSeq (· ++ [v].toArray))).push (seqObj "list" [v].toArray 0)).get? (s.heap.objs.size + 1) = some (seqObj "list" [v].toArray 0) := by
    rw [← hsz]; exact Heap.get?_push_size _ rfl
  have keep : ∀ b o, s.heap.get? b = some o → (((s.heap.push (seqObj "list" #[] 0)).update s.heap.objs.size (Obj.mapSeq (· ++ [v].toArray))).push (seqObj "list" [v].toArray 0)).get? b = some o := fun b o q => by
    have hlt : b < s.heap.objs.size := Heap.lt_size q
    rw [Heap.get?_push_ne _ _ _ (by rw [hsz]; exact Nat.ne_of_lt (Nat.lt_succ_of_lt hlt)), Heap.get?_update_ne _ _ _ _ (Nat.ne_of_lt hlt), Heap.get?_push_ne _ _ _ (Nat.ne_of_lt hlt)]
    exact q
  have hL : L < s.heap.objs.size := F.ns.lt
  show wpAny _ _ _ _ _ { s with heap := ((s.heap.push (seqObj "list" #[] 0)).update s.heap.objs.size (Obj.mapSeq (· ++ [v].toArray))).push (seqObj "list" [v].toArray 0) }
  rw [hsz]
  refine wpAny_bind (wpAny_holding (wpAny_call_entry slot_list_sort ⟨_, hoL, rfl⟩ entry_list_sort ?body (args_list_sort _)))
  case body =>
    refine list_sort_one (s := { s with heap := ((s.heap.push (seqObj "list" #[] 0)).update s.heap.objs.size (Obj.mapSeq (· ++ [v].toArray))).push (seqObj "list" [v].toArray 0) })
      (F.kept keep) (N.grown keep) hoL (Nat.ne_of_gt (Nat.lt_succ_of_lt hL)) (Heap.get?_none_of_le (Nat.le_trans F.above (Nat.le_succ_of_le (Nat.le_of_lt hL))))
      (fun p hp => Nat.ne_of_lt (Nat.lt_succ_of_lt (Heap.lt_size (N p hp).1))) fun c h' F' N' => ?_
    exact ⟨_, rfl, wpAny_pure ⟨_, rfl, h _ c h' F' N' fun q hq => Nat.lt_succ_of_lt (Heap.lt_size (N q hq).1)⟩⟩
end
section
variable {prog : Program} {w : World} {A : Around} {b fin : Bool} {Q : Bool → Shared → Prop} {p q : Value} {r : List (Value × Value)} {i : Nat} {e e' : Bool} {s : Shared}
theorem kat_goD (he : e = e') (h : KatGo prog w A b fin Q p q r i e' s) : KatGo prog w A b fin Q p q r i e s := he ▸ h
end
theorem kas_nextD {α : Type} {cmp : Nat → Nat → (Bool → Shared → Prop) → Shared → Prop} {k : Bool → KasT α} {Q : α → Shared → Prop} {b b' : Bool} {s : Shared} (he : b = b') (h : KasNext cmp k Q b' s) : KasNext cmp k Q b s := he ▸ h
theorem mem_of {x : Addr × Obj} {l : List (Addr × Obj)} (h : x ∈ l) : List.Mem x l := h
end Mine
end
section
open PySem PySem.W PyProof.Rows PySem.Calls
namespace Mine
open PyProof.Rows.LCg
section
variable {prog : Program} {w : World} {A : Around} {E : Value → Shared → Prop} {s : Shared} {h₀ : Heap} {L : Addr} {m : Str → Option Value} {env : Env}
noncomputable def IterOk (prog : Program) (w : World) (A : Around) (h₀ : Heap) (L : Addr) (m : Str → Option Value) (S : List (Addr × Obj) → Prop) (P : Nat → Value → Prop) (n : Nat) (xv : Value) (news : List (Addr × Obj)) (s₁ : Shared) : Prop :=
  ∀ (Q E : Value → Shared → Prop), (∀ (I : Addr) (fp : List Addr) (St : Nat → Heap → Prop) (h₂ : Heap), Walks prog w A I fp [I] n P St → (∀ i h, St i h → ∃ o, h.get? I = some o) →
    (∀ i h h' o nw, St i h → h.get? I = some o → h'.get? I = some o → (∀ b o, h₀.get? b = some o → h'.get? b = some o) → News h₀ L h' nw → S nw → St i h') →
    St 0 h₂ → (∀ b ∈ fp, b < h₂.objs.size) → Fr h₀ L h₂ m → News h₀ L h₂ news → L ≠ I → h₀.get? I = none → (∀ p ∈ news, p.1 ≠ I) → Q (.ref I) { s₁ with heap := h₂ }) →
    wpAny (model prog w) A (pyIter xv) Q E s₁
theorem iter_bytes {b : Array UInt8} {t : Tok} {ks : List Int} {news : List (Addr × Obj)} (hk : KBw.bInts b = ks) (hh : A.handled = none) (F : Fr h₀ L s.heap m) (N : News h₀ L s.heap news) :
    IterOk prog w A h₀ L m (fun _ => True) (fun i v => ∃ n t, ks.toArray[i]? = some n ∧ v = .int n t) ks.length (.bytes b t) news s := by
  intro Q E hQ
  subst hk
  refine KBw.pyIter_bytes ?_
  have W := KBw.walks (prog := prog) (w := w) hh s.heap.objs.size b t
  have W' : Walks prog w A s.heap.objs.size [s.heap.objs.size] [s.heap.objs.size] (KBw.bInts b).length (fun i v => ∃ n t, (KBw.bInts b).toArray[i]? = some n ∧ v = .int n t) (fun i h => KBw.IsBytesIter h s.heap.objs.size b t i) := by
    rw [KBw.ints_length]
    exact { sub := W.sub, frame := W.frame, done := W.done, self := W.self,
            item := fun i s Q E hi st hQ => W.item i s Q E hi st fun v h' tk hP => hQ v h' tk (by
              obtain ⟨c, u, e, rfl⟩ := hP
              exact ⟨_, u, by simpa using KBw.ints_get e, rfl⟩) }
  refine hQ _ _ _ _ W' (fun i h st => by obtain ⟨o, e, _⟩ := st; exact ⟨o, e⟩) (fun i h h' o nw st e e' _ _ _ => by obtain ⟨o', q, r⟩ := st; rw [e] at q; cases q; exact ⟨o, e', r⟩)
    ⟨_, Heap.get?_push_size _ rfl, rfl, rfl⟩ (fun b hb => ?_) (F.push _) (fun p hp => ⟨Heap.get?_push_of_some _ (N p hp).1, (N p hp).2⟩) (Nat.ne_of_lt F.ns.lt) (next_is_new F) (fun p hp => Nat.ne_of_lt (Heap.lt_size (N p hp).1))
  rw [List.mem_singleton.mp hb]
  show s.heap.objs.size < (s.heap.push _).objs.size
  rw [Heap.size_push]; exact Nat.lt_succ_self _
theorem iter_range {r : Addr} {a b c : Int} {t u v : Tok} {n : Nat} {news : List (Addr × Obj)} (hr : IsRange s.heap r a b c t u v) (hsm : Builtin.Range.small a b c = true) (hn : Builtin.Range.rangeSize a b c = ((n : Nat) : Int))
    (hh : A.handled = none) (F : Fr h₀ L s.heap m) (N : News h₀ L s.heap news) :
    IterOk prog w A h₀ L m (fun _ => True) (fun i v => ∃ t, v = .int (a + i * c) t) n (.ref r) news s := by
  intro Q E hQ
  refine wpAny_pyIter_range hr hsm ?_
  refine hQ _ [s.heap.objs.size] _ _ (Walks.range hh _ a c n) (fun i h st => ⟨_, st⟩) (fun i h h' o nw st e e' _ _ _ => ?_)
    (by show IsRangeIter _ _ _ _ _; rw [hn]; simpa using Heap.get?_push_size _ rfl) (fun b hb => ?_) (F.push _) (fun p hp => ⟨Heap.get?_push_of_some _ (N p hp).1, (N p hp).2⟩) (Nat.ne_of_lt F.ns.lt) (next_is_new F) (fun p hp => Nat.ne_of_lt (Heap.lt_size (N p hp).1))
  · have st' : h.get? s.heap.objs.size = some _ := st
    show h'.get? s.heap.objs.size = some _
    rw [e', ← e]; exact st'
  · rw [List.mem_singleton.mp hb]
    show s.heap.objs.size < (s.heap.push _).objs.size
    rw [Heap.size_push]; exact Nat.lt_succ_self _
noncomputable def TupAt (h₀ : Heap) (ax : Addr) (its : Array Value) (news : List (Addr × Obj)) : Prop := h₀.IsTuple ax its ∨ ∃ o, (ax, o) ∈ news ∧ o.cls = .type "tuple" ∧ ∃ n, o.data = .seq its n
theorem TupAt.tup {h₀ h : Heap} {L ax : Addr} {its : Array Value} {news : List (Addr × Obj)} (x : TupAt h₀ ax its news) (k : ∀ b o, h₀.get? b = some o → h.get? b = some o) (N : News h₀ L h news) : h.IsTuple ax its := by
  rcases x with ⟨o, e, r⟩ | ⟨o, hm, r⟩
  · exact ⟨o, k _ _ e, r⟩
  · exact ⟨o, (N _ hm).1, r⟩
theorem iter_tuple {ax : Addr} {its : Array Value} {news : List (Addr × Obj)} (ht : TupAt h₀ ax its news) (hh : A.handled = none) (F : Fr h₀ L s.heap m) (N : News h₀ L s.heap news) :
    IterOk prog w A h₀ L m (TupAt h₀ ax its) (fun i v => its[i]? = some v) its.size (.ref ax) news s := by
  intro Q E hQ
  have hl := ht.tup F.keep N
  have hlt : ax < s.heap.objs.size := by obtain ⟨_, e, _⟩ := hl; exact Heap.lt_size e
  refine wpAny_pyIter_tuple hl ?_
  refine hQ _ _ _ _ (Walks.tuple hh s.heap.objs.size ax (Nat.ne_of_lt hlt) its) (fun i h st => by obtain ⟨o, e, _⟩ := st.1; exact ⟨o, e⟩)
    (fun i h h' o nw st e e' k N S => ⟨by obtain ⟨o', q, r⟩ := st.1; rw [e] at q; cases q; exact ⟨o, e', r⟩, S.tup k N⟩)
    ⟨⟨_, Heap.get?_push_size _ rfl, rfl, rfl⟩, hl.push _⟩ (fun b hb => ?_) (F.push _) (fun p hp => ⟨Heap.get?_push_of_some _ (N p hp).1, (N p hp).2⟩) (Nat.ne_of_lt F.ns.lt) (next_is_new F) (fun p hp => Nat.ne_of_lt (Heap.lt_size (N p hp).1))
  show b < (s.heap.push _).objs.size
  rw [Heap.size_push]
  rcases List.mem_cons.mp hb with rfl | hb
  · exact Nat.lt_succ_self _
  · rw [List.mem_singleton.mp hb]; exact Nat.lt_succ_of_lt hlt
theorem iter_list {ax : Addr} {its : Array Value} {news : List (Addr × Obj)} (ht : SrcAt h₀ ax its news) (hh : A.handled = none) (F : Fr h₀ L s.heap m) (N : News h₀ L s.heap news) :
    IterOk prog w A h₀ L m (SrcAt h₀ ax its) (fun i v => its[i]? = some v) its.size (.ref ax) news s := by
  intro Q E hQ
  have hl := ht.list F.keep N
  have hlt : ax < s.heap.objs.size := by obtain ⟨_, e, _⟩ := hl; exact Heap.lt_size e
  refine wpAny_pyIter_list hl ?_
  refine hQ _ _ _ _ (Walks.list hh s.heap.objs.size ax (Nat.ne_of_lt hlt) its) (fun i h st => by obtain ⟨o, e, _⟩ := st.1; exact ⟨o, e⟩) list_st
    ⟨⟨_, Heap.get?_push_size _ rfl, rfl, rfl⟩, hl.push _⟩ (fun b hb => ?_) (F.push _) (fun p hp => ⟨Heap.get?_push_of_some _ (N p hp).1, (N p hp).2⟩) (Nat.ne_of_lt F.ns.lt) (next_is_new F) (fun p hp => Nat.ne_of_lt (Heap.lt_size (N p hp).1))
  show b < (s.heap.push _).objs.size
  rw [Heap.size_push]
  rcases List.mem_cons.mp hb with rfl | hb
  · exact Nat.lt_succ_self _
  · rw [List.mem_singleton.mp hb]; exact Nat.lt_succ_of_lt hlt
/-- the source of a block: any that IterOk knows -/
noncomputable def CompSrcW (prog : Program) (w : World) (A : Around) (h₀ : Heap) (L : Addr) (m : Str → Option Value) (env : Env) (elt : Expr) (x : Str) (scope : Scope) (cl : List (Str × Addr)) (Fin : Shared → List Value → List (Addr × Obj) → Prop) (xv : Value) (s₁ : Shared) : Prop :=
  ∃ S P n news, n ≤ sizeLine ∧ Fr h₀ L s₁.heap m ∧ News h₀ L s₁.heap news ∧ S news ∧ IterOk prog w A h₀ L m S P n xv news s₁ ∧
    ∀ s₂ : Shared, (∃ h, s₂ = { s₁ with heap := h }) → CompRest prog w A h₀ L m env elt x scope cl s₂ S P (Fin s₂) n 0 [] news
theorem CompSrcW.mk {elt : Expr} {x : Str} {scope : Scope} {cl : List (Str × Addr)} {Fin : Shared → List Value → List (Addr × Obj) → Prop} {xv : Value} {s₁ : Shared} {S : List (Addr × Obj) → Prop} {P : Nat → Value → Prop} {n : Nat} {news : List (Addr × Obj)}
    (it : IterOk prog w A h₀ L m S P n xv news s₁) (F : Fr h₀ L s₁.heap m) (N : News h₀ L s₁.heap news) (hsz : n ≤ sizeLine) (hS : S news)
    (h : ∀ g, CompRest prog w A h₀ L m env elt x scope cl { s₁ with heap := g } S P (Fin { s₁ with heap := g }) n 0 [] news) :
    CompSrcW prog w A h₀ L m env elt x scope cl Fin xv s₁ := ⟨S, P, n, news, hsz, F, N, hS, it, fun _ ⟨g, e⟩ => e ▸ h g⟩
theorem ListComp_W {elt iter : Expr} {x : Str} {px : Pos} {scope : Scope} {cl : List (Str × Addr)} {pos : Pos} {Q : Value → Shared → Prop} (F₀ : Fr h₀ L s.heap m)
    (hclos : closureFor scope env = pure cl) (hcell : ∀ y ∈ scope.names, y.2 ≠ .cell) (hkind : scope.kind = .function)
    (hnames : ∀ y ∈ scope.names, y.2 = .local → scope.names.lookup y.1 = some .local) (hx : scope.names.lookup x = some .local)
    (hs : ∀ x, foldedSetIterable iter env x = pure x)
    (h : wpAny (model prog w) A (eval iter env) (CompSrcW prog w A h₀ L m env elt x scope cl (fun s₂ => FinE h₀ L m s₂ Q)) E s) :
    wpAny (model prog w) A (eval (.ListComp elt [⟨.Name x px, iter, [], 0⟩] scope pos) env) Q E s := by
  rw [eval_ListComp]
  refine wpAny_comprehension_free (use := none) rfl hs hclos hkind hnames (wpAny_mono h (fun xv s₁ h₁ => ?_) fun _ _ e => e)
  obtain ⟨S, P, n, news, hsz, F, N, hS, it, R⟩ := h₁
  refine it _ _ fun I fp St h₂ W hIo hSt st0 hfp F₂ N₂ hLI hI₀ off => ?_
  refine block_U W hsz hIo hSt hcell hkind hx st0 hfp F₂ N₂ hLI hI₀ off hS (R _ ⟨_, rfl⟩) ?_
  intro D C h tk m' ys news' F' N' o1 hn hC₀ hD₀ hCL hDL hCD offC fin
  refine ⟨m', hn, fun h'' hs'' => fin D h'' tk (F'.change hs'' hCL hC₀) (fun p hp => ?_) o1⟩
  refine ⟨hs''.extBut _ _ ?_ (N' p hp).1, (N' p hp).2⟩
  rcases List.mem_cons.mp hp with rfl | hp
  · exact Ne.symm hCD
  · exact offC p hp
theorem Assign_ListComp_W {elt iter : Expr} {x y : Str} {px py : Pos} {scope : Scope} {cl : List (Str × Addr)} {pos spos : Pos} {Q : Flow → Shared → Prop} (F₀ : Fr h₀ L s.heap m) (hLe : env.locals = L)
    (hsw : swapsWith (.ListComp elt [⟨.Name x px, iter, [], 0⟩] scope pos) (some (.Name y py)) spos.line env = pure true)
    (hclos : closureFor scope env = pure cl) (hcell : ∀ z ∈ scope.names, z.2 ≠ .cell) (hkind : scope.kind = .function)
    (hnames : ∀ z ∈ scope.names, z.2 = .local → scope.names.lookup z.1 = some .local) (hx : scope.names.lookup x = some .local)
    (hy : env.kindOf y = some .local) (hp : (env.scope.kind == .class || (env.scope.kind == .module && env.locals != env.globals)) = false)
    (hs : ∀ x, foldedSetIterable iter env x = pure x)
    (h : wpAny (model prog w) A (eval iter env) (CompSrcW prog w A h₀ L m env elt x scope cl (fun s₂ => FinA h₀ L m s₂ y Q)) E s) :
    wpAny (model prog w) A (exec (.Assign [.Name y py] (.ListComp elt [⟨.Name x px, iter, [], 0⟩] scope pos) spos) env) Q E s := by
  subst hLe
  rw [exec_Assign_Name_used _ _ _ _ hsw]
  refine wpAny_bind (wpAny_standAt (wpAny_bind ?_))
  show wpAny _ A (do let _ ← comprehension (.ListComp elt [⟨.Name x px, iter, [], 0⟩] scope pos) scope env _ (newList []) false (eval iter env) (some (assign (.Name y py) env))) _ _ s
  refine wpAny_bind (wpAny_mono (wpAny_comprehension_free (use := some (assign (.Name y py) env)) (Q := fun _ s' => Q .next s') rfl hs hclos hkind hnames
    (wpAny_mono h (fun xv s₁ h₁ => ?_) fun _ _ e => e)) (fun _ s' hq => wpAny_pure (wpAny_pure hq)) fun _ _ e => e)
  obtain ⟨S, P, n, news, hsz, F, N, hS, it, R⟩ := h₁
  refine it _ _ fun I fp St h₂ W hIo hSt st0 hfp F₂ N₂ hLI hI₀ off => ?_
  refine block_U W hsz hIo hSt hcell hkind hx st0 hfp F₂ N₂ hLI hI₀ off hS (R _ ⟨_, rfl⟩) ?_
  intro D C h' tk m' ys news' F' N' o1 hn hC₀ hD₀ hCL hDL hCD offC fin
  show wpAny _ A (assign (.Name y py) env (.ref D)) _ _ _
  refine wpAny_assign_Name (wpAny_storeName_local hy F'.ns (fun h₂ hn₂ hs₂ => ?_) hp)
  have hL₀ : h₀.get? env.locals = none := Heap.get?_none_of_le F'.above
  have F₂ : Fr h₀ env.locals h₂ (fun z => if z = y then some (.ref D) else m z) := ⟨hn₂, fun b o e => hs₂.extBut b o (fun q => by rw [q, hL₀] at e; cases e) (F'.keep b o e), F'.above⟩
  refine ⟨m', hn.sameBut hs₂ hCL, fun h'' hs'' => fin D h'' _ (F₂.change hs'' hCL hC₀) (fun p hp => ?_) o1⟩
  have z : h₂.get? p.1 = some p.2 := hs₂.extBut _ _ (N' p hp).2.1 (N' p hp).1
  refine ⟨hs''.extBut _ _ ?_ z, (N' p hp).2⟩
  rcases List.mem_cons.mp hp with rfl | hp
  · exact Ne.symm hCD
  · exact offC p hp
end
end Mine
end
section
open PySem PySem.W PyProof.Rows PySem.Calls
namespace Mine
noncomputable def AllGe (d : Nat) : List Nat → Prop
  | [] => True
  | a :: r => d ≤ a ∧ AllGe d r
noncomputable def AllNe (d : Nat) : List Nat → Prop
  | [] => True
  | a :: r => d ≠ a ∧ AllNe d r
theorem AllGe.mem {d b : Nat} : ∀ {l : List Nat}, AllGe d l → b ∈ l → d ≤ b
  | _ :: _, h, hb => by
    rcases List.mem_cons.mp hb with rfl | hb
    · exact h.1
    · exact AllGe.mem h.2 hb
theorem AllNe.mem {d b : Nat} : ∀ {l : List Nat}, AllNe d l → b ∈ l → d ≠ b
  | _ :: _, h, hb => by
    rcases List.mem_cons.mp hb with rfl | hb
    · exact h.1
    · exact AllNe.mem h.2 hb
theorem own_nil {adr : List Addr} : OwnOff [] adr := fun _ h => nomatch h
theorem own_cons {p : Addr × Obj} {r : List (Addr × Obj)} {adr : List Addr} (h : AllNe p.1 adr) (t : OwnOff r adr) : OwnOff (p :: r) adr := fun q hq b hb => by
  rcases List.mem_cons.mp hq with rfl | hq
  · exact h.mem hb
  · exact t q hq b hb
theorem own_lt {d : Addr} {r : List (Addr × Obj)} {adr : List Addr} (h : AllLt d r) (k : AllGe d adr) : OwnOff r adr := fun q hq b hb e => by
  have h1 := ktn_ltOf h q hq
  have h2 := k.mem hb
  rw [e] at h1
  exact absurd h1 (Nat.not_lt.mpr h2)
theorem own_sub {r : List (Addr × Obj)} {adr adr' : List Addr} (h : OwnOff r adr) (k : ∀ b ∈ adr', b ∈ adr) : OwnOff r adr' := fun q hq b hb => h q hq b (k b hb)
theorem lt_nil {d : Nat} : AllLt d [] := trivial
theorem lt_cons {d : Nat} {p : Addr × Obj} {r : List (Addr × Obj)} (h : @LT.lt Nat _ p.1 d) (t : AllLt d r) : AllLt d (p :: r) := ⟨h, t⟩
theorem lt_le {d e : Nat} : ∀ {r : List (Addr × Obj)}, AllLt d r → d ≤ e → AllLt e r
  | [], _, _ => trivial
  | _ :: _, h, k => ⟨Nat.lt_of_lt_of_le h.1 k, lt_le h.2 k⟩
theorem ne_off1 {D : Addr} {l : List (Addr × Obj)} : PyProof.Rows.LCg.Off1 D l → ∀ p ∈ l, p.1 ≠ D := by
  induction l with
  | nil => intro _ p hp; cases hp
  | cons q r ih =>
    intro h p hp
    have h1 : @Ne Nat q.1 D := h.1
    have h2 : PyProof.Rows.LCg.Off1 D r := h.2
    rcases List.mem_cons.mp hp with e | hp
    · rw [e]; exact h1
    · exact ih h2 p hp
theorem ne_lt {d a : Addr} {l : List (Addr × Obj)} (h : AllLt d l) (k : @LE.le Nat _ d a) : ∀ p ∈ l, p.1 ≠ a := fun p hp e => by
  have h1 := ktn_ltOf h p hp
  rw [e] at h1
  exact absurd h1 (Nat.not_lt.mpr k)
theorem off_lt {I : Addr} {l : List (Addr × Obj)} (h : ∀ p ∈ l, p.1 < I) : ∀ p ∈ l, p.1 ≠ I := fun p hp => Nat.ne_of_lt (h p hp)
theorem off_ltA {I : Addr} {l : List (Addr × Obj)} (h : AllLt I l) : ∀ p ∈ l, p.1 ≠ I := fun p hp => Nat.ne_of_lt (ktn_ltOf h p hp)
section
variable {h₀ : Heap} {L I C D : Addr} {m : Str → Option Value} {s₁ : Shared} {oI oC oD : Obj} {S : List (Addr × Obj) → Prop} {rest : Value → List (Addr × Obj) → Prop} {y : Value} {h' : Heap} {tk : Nat} {news : List (Addr × Obj)} {p q : Addr × Obj}
open PyProof.Rows.LCg
theorem cend0 (F : Fr h₀ L h' m) (N : News h₀ L h' ((I, oI) :: (C, oC) :: (D, oD) :: news)) (off : Off3 I C D news) (hS : S news) (r : rest y news) :
    CompEnd h₀ L m s₁ I oI C oC D oD S rest y { s₁ with heap := h', toks := tk } := CompEnd.intro F N _ (fun p hp => hp) off hS r
theorem cend1 (F : Fr h₀ L h' m) (N : News h₀ L h' (p :: (I, oI) :: (C, oC) :: (D, oD) :: news)) (off : Off3 I C D news) (hp : (@Ne Nat p.1 I) ∧ (@Ne Nat p.1 C) ∧ (@Ne Nat p.1 D)) (hS : S (p :: news)) (r : rest y (p :: news)) :
    CompEnd h₀ L m s₁ I oI C oC D oD S rest y { s₁ with heap := h', toks := tk } := CompEnd.intro F N (p :: news) (fun r hr => by
      simp only [List.mem_cons] at hr ⊢
      rcases hr with h | h | h | h | h <;> simp only [h, true_or, or_true]) ⟨hp, off⟩ hS r
theorem cend2 (F : Fr h₀ L h' m) (N : News h₀ L h' (p :: q :: (I, oI) :: (C, oC) :: (D, oD) :: news)) (off : Off3 I C D news) (hp : (@Ne Nat p.1 I) ∧ (@Ne Nat p.1 C) ∧ (@Ne Nat p.1 D)) (hq : (@Ne Nat q.1 I) ∧ (@Ne Nat q.1 C) ∧ (@Ne Nat q.1 D)) (hS : S (p :: q :: news)) (r : rest y (p :: q :: news)) :
    CompEnd h₀ L m s₁ I oI C oC D oD S rest y { s₁ with heap := h', toks := tk } := CompEnd.intro F N (p :: q :: news) (fun r hr => by
      simp only [List.mem_cons] at hr ⊢
      rcases hr with h | h | h | h | h | h <;> simp only [h, true_or, or_true]) ⟨hp, hq, off⟩ hS r
end
section
variable {prog : Program} {w : World} {A : Around} {E : Value → Shared → Prop} {s : Shared} {h₀ : Heap} {L : Addr} {m : Str → Option Value} {news : List (Addr × Obj)} {Q : Value → Shared → Prop}
theorem item_mem {value slice : PySem.Expr} {l : Addr} {vs : Array Value} {n : Nat} {k : Int} {u : Tok} {v : Value} (N : News h₀ L s.heap news) (hm : (l, W.listOf vs n) ∈ news)
    (h0 : 0 ≤ k) (hhi : k < 2 ^ 63) (hx : vs[k.toNat]? = some v) (h : Q v s)
    (hs : subscripted slice false (.ref l) (.int k u) = operate [.ref l, .int k u] (getItem (.ref l) (.int k u))) :
    wpAny (model prog w) A (subscriptTail value slice (.ref l) (.int k u)) Q E s :=
  have hl : s.heap.IsList l vs := ⟨_, (N _ hm).1, rfl, n, rfl⟩
  tail_any hl.typeIs slot_list_getitem.lookup (wpAny_getItem_list hl h0 hhi hx h) hs
theorem item_mem0 {value slice : PySem.Expr} {l : Addr} {r : List Value} {n : Nat} {k : Int} {u : Tok} {v : Value} (N : News h₀ L s.heap news) (hm : (l, W.listOf (v :: r).toArray n) ∈ news) (hk : k = 0) (h : Q v s)
    (hs : subscripted slice false (.ref l) (.int k u) = operate [.ref l, .int k u] (getItem (.ref l) (.int k u))) :
    wpAny (model prog w) A (subscriptTail value slice (.ref l) (.int k u)) Q E s := by
  subst hk; exact item_mem N hm (by decide) (by decide) (by simp) h hs
theorem item_mem1 {value slice : PySem.Expr} {l : Addr} {r : List Value} {n : Nat} {k : Int} {u : Tok} {v v0 : Value} (N : News h₀ L s.heap news) (hm : (l, W.listOf (v0 :: v :: r).toArray n) ∈ news) (hk : k = 1) (h : Q v s)
    (hs : subscripted slice false (.ref l) (.int k u) = operate [.ref l, .int k u] (getItem (.ref l) (.int k u))) :
    wpAny (model prog w) A (subscriptTail value slice (.ref l) (.int k u)) Q E s := by
  subst hk; exact item_mem N hm (by decide) (by decide) (by simp) h hs
theorem item_mem2 {value slice : PySem.Expr} {l : Addr} {r : List Value} {n : Nat} {k : Int} {u : Tok} {v v0 v1 : Value} (N : News h₀ L s.heap news) (hm : (l, W.listOf (v0 :: v1 :: v :: r).toArray n) ∈ news) (hk : k = 2) (h : Q v s)
    (hs : subscripted slice false (.ref l) (.int k u) = operate [.ref l, .int k u] (getItem (.ref l) (.int k u))) :
    wpAny (model prog w) A (subscriptTail value slice (.ref l) (.int k u)) Q E s := by
  subst hk; exact item_mem N hm (by decide) (by decide) (by simp) h hs
end
theorem isl {h₀ h : Heap} {L l : Addr} {news : List (Addr × Obj)} {vs : List Value} {n : Nat} (N : News h₀ L h news) (hm : (l, W.listOf vs.toArray n) ∈ news) : h.IsList l vs.toArray := ⟨_, (N _ hm).1, rfl, n, rfl⟩
theorem look185 (P : Params) : List.lookup 185 (Mine.hd.heap_39 P) = some { cls := .type "tuple", data := .seq #[.int 65536 406, .int 1330926671 408, .int 1953658213 410] } := by kernel_rfl
noncomputable def verOk (v : Int) : Prop := v = 65536 ∨ v = 1330926671 ∨ v = 1953658213
theorem ver_any {v : Int} {b : Bool} (h : verOk v ↔ b = true) : ([65536, 1330926671, 1953658213] : List Int).any (· == v) = b := by
  cases b with
  | true =>
    have h' : verOk v := h.mpr rfl
    rcases h' with rfl | rfl | rfl <;> rfl
  | false =>
    simp only [List.any_cons, List.any_nil, Bool.or_false, Bool.or_eq_false_iff, beq_eq_false_iff_ne]
    refine ⟨fun e => ?_, fun e => ?_, fun e => ?_⟩ <;> exact absurd (h.mp (by simp [verOk, ← e])) (by simp)
theorem notin_ver {prog : Program} {w' w : World} {A : Around} {E : Value → Shared → Prop} {Q : Value → Shared → Prop} {s : Shared} {h₀ : Heap} {L : Addr} {m : Str → Option Value} {v : Int} {t : Tok} {b : Bool} (X : (Mine.hd.heap_39 w.params).In h₀) (F : Fr h₀ L s.heap m) (h : verOk v ↔ b = true) (hq : Q (.bool !b) s) :
    wpAny (model prog w') A (compareOp .NotIn (.int v t) (.ref 185)) Q E s := by
  refine notin_tuple_ints (items := #[.int 65536 406, .int 1330926671 408, .int 1953658213 410]) (ns := [65536, 1330926671, 1953658213]) ⟨_, F.keep _ _ (X _ _ (look185 _)), rfl, _, rfl⟩ (.cons _ _ (.cons _ _ (.cons _ _ .nil))) ?_
  rw [ver_any h]
  exact hq
theorem ver_yes {v x : Int} (e : v = x) (h : verOk x) : verOk v ↔ true = true := ⟨fun _ => rfl, fun _ => e ▸ h⟩
theorem ver_no {v x : Int} (e : v = x) (h : ¬verOk x) : verOk v ↔ false = true := ⟨fun k => absurd (e ▸ k) h, fun k => by cases k⟩
end Mine
end
section
open PySem PySem.W PyProof.Rows PySem.Calls
namespace Mine
open PyProof.Rows.LCg
section
variable {prog : Program} {w : World} {A : Around} {E : Value → Shared → Prop} {s : Shared} {h₀ : Heap} {env : Env}
noncomputable def StepW (h₀ : Heap) (L : Addr) (I : Addr) (oI : Obj) (Jn : (Str → Option Value) → List (Addr × Obj) → Prop) (s₁ : Shared) (f : PySem.Flow) (s₃ : Shared) : Prop :=
  f = .next ∧ ∃ h' tk m₂ news₂, s₃ = { s₁ with heap := h', toks := tk } ∧ Fr h₀ L h' m₂ ∧ News h₀ L h' ((I, oI) :: news₂) ∧ (∀ p ∈ news₂, p.1 ≠ I) ∧ Jn m₂ news₂
theorem StepW.mk {L I : Addr} {oI : Obj} {Jn : (Str → Option Value) → List (Addr × Obj) → Prop} {s₁ : Shared} {h' : Heap} {tk : Nat} {m₂ : Str → Option Value} {news₂ : List (Addr × Obj)}
    (F : Fr h₀ L h' m₂) (N : News h₀ L h' ((I, oI) :: news₂)) (off : ∀ p ∈ news₂, p.1 ≠ I) (j : Jn m₂ news₂) : StepW h₀ L I oI Jn s₁ .next { s₁ with heap := h', toks := tk } := ⟨rfl, h', tk, m₂, news₂, rfl, F, N, off, j⟩
noncomputable def LoopW (prog : Program) (w : World) (A : Around) (h₀ : Heap) (env : Env) (tgt : Expr) (body : List Stmt) (Q : PySem.Flow → Shared → Prop) (E : Value → Shared → Prop) (xv : Value) (s₁ : Shared) : Prop :=
  ∃ (J : Nat → (Str → Option Value) → List (Addr × Obj) → Prop) (S : List (Addr × Obj) → Prop) (P : Nat → Value → Prop) (n : Nat) (m : Str → Option Value) (news : List (Addr × Obj)),
    Fr h₀ env.locals s₁.heap m ∧ News h₀ env.locals s₁.heap news ∧ S news ∧ J 0 m news ∧ IterOk prog w A h₀ env.locals m S P n xv news s₁ ∧
    (∀ i v I oI m₁ news₁ s₂, i < n → P i v → J i m₁ news₁ → S news₁ → (∃ h tk, s₂ = { s₁ with heap := h, toks := tk }) → Fr h₀ env.locals s₂.heap m₁ → News h₀ env.locals s₂.heap ((I, oI) :: news₁) → (∀ p ∈ news₁, p.1 ≠ I) →
      wpAny (model prog w) A (assign tgt env v) (fun _ s₃ => wpAny (model prog w) A (execs body env) (StepW h₀ env.locals I oI (fun m₂ news₂ => J (i + 1) m₂ news₂ ∧ S news₂) s₁) E s₃) E s₂) ∧
    (∀ h' tk m' news', Fr h₀ env.locals h' m' → News h₀ env.locals h' news' → J n m' news' → Q .next { s₁ with heap := h', toks := tk })
theorem LoopW.mk {tgt : Expr} {body : List Stmt} {Q : PySem.Flow → Shared → Prop} {xv : Value} {s₁ : Shared} {m : Str → Option Value} {news : List (Addr × Obj)}
    (J : Nat → (Str → Option Value) → List (Addr × Obj) → Prop) (S : List (Addr × Obj) → Prop) (P : Nat → Value → Prop) (n : Nat)
    (F : Fr h₀ env.locals s₁.heap m) (N : News h₀ env.locals s₁.heap news) (hS : S news) (hJ : J 0 m news) (it : IterOk prog w A h₀ env.locals m S P n xv news s₁)
    (step : ∀ i v I oI m₁ news₁ h tk, i < n → P i v → J i m₁ news₁ → S news₁ → Fr h₀ env.locals h m₁ → News h₀ env.locals h ((I, oI) :: news₁) → (∀ p ∈ news₁, p.1 ≠ I) →
      wpAny (model prog w) A (assign tgt env v) (fun _ s₃ => wpAny (model prog w) A (execs body env) (StepW h₀ env.locals I oI (fun m₂ news₂ => J (i + 1) m₂ news₂ ∧ S news₂) s₁) E s₃) E { s₁ with heap := h, toks := tk })
    (fin : ∀ h' tk m' news', Fr h₀ env.locals h' m' → News h₀ env.locals h' news' → J n m' news' → Q .next { s₁ with heap := h', toks := tk }) :
    LoopW prog w A h₀ env tgt body Q E xv s₁ :=
  ⟨J, S, P, n, m, news, F, N, hS, hJ, it, fun i v I oI m₁ news₁ s₂ hi hp hj hs ⟨h, tk, e⟩ F N off => by subst e; exact step i v I oI m₁ news₁ h tk hi hp hj hs F N off, fin⟩
theorem For_W {tgt iter : Expr} {body : List Stmt} {pos : Pos} {Q : PySem.Flow → Shared → Prop} (h₀ : Heap)
    (h : wpAny (model prog w) A (eval iter env) (LoopW prog w A h₀ env tgt body Q E) E s)
    (hs : ∀ x, foldedSetIterable iter env x = pure x := by intro _; rfl)
    (ht : ∀ I v, letOwnedTupleGo tgt (.ref I) v = pure () := by intro _ _; rfl)
    (hE : PassesOwn (model prog w) A env E := by passes_own) :
    wpAny (model prog w) A (exec (.For tgt iter body [] pos) env) Q E s := by
  refine wpAny_For (wpAny_mono h (fun xv s₁ h₁ => ?_) fun _ _ e => e) hs
  obtain ⟨J, S, P, n, m, news, F, N, hS, h0, it, step, fin⟩ := h₁
  refine it _ _ fun I fp St h₂ W hIo hSt st0 hfp F₂ N₂ hLI hI₀ off => ?_
  refine codeAny_forLoop (fun k s' => ∃ h' tk m' news' i, s' = { s₁ with heap := h', toks := tk } ∧ St i h' ∧ Fr h₀ env.locals h' m' ∧ News h₀ env.locals h' news' ∧ (∀ p ∈ news', p.1 ≠ I) ∧ J i m' news' ∧ S news' ∧ i ≤ n ∧ k = n + 1 - i) ?_ (n + 1)
    ⟨h₂, s₁.toks, m, news, 0, rfl, st0, F₂, N₂, off, h0, hS, Nat.zero_le _, rfl⟩ (ht I)
  rintro k s' ⟨h', tk, m', news', i, rfl, hst', F', N', hnw', hJ, hS', hi, rfl⟩
  have next : ∀ h₁ : Heap, (∀ b o, b ∉ [I] → h'.get? b = some o → h₁.get? b = some o) → Fr h₀ env.locals h₁ m' ∧ News h₀ env.locals h₁ news' := fun h₁ hk₁ =>
    ⟨⟨F'.ns.at' fun o e => hk₁ _ o (by simpa using hLI) e, fun b o e => hk₁ b o (fun hb => by
      rw [List.mem_singleton.mp hb, hI₀] at e; cases e) (F'.keep b o e), F'.above⟩, fun p hp => ⟨hk₁ _ _ (by simpa using hnw' p hp) (N' p hp).1, (N' p hp).2⟩⟩
  by_cases hlt : i < n
  · refine W.item i _ _ _ hlt hst' fun v h₁ tk₁ hP hst₁ hk₁ => ?_
    obtain ⟨F₁, N₁⟩ := next h₁ hk₁
    obtain ⟨oI, hoI⟩ := hIo _ _ hst₁
    have NI : News h₀ env.locals h₁ ((I, oI) :: news') := fun p hp => by
      rcases List.mem_cons.mp hp with rfl | hp
      · exact ⟨hoI, Ne.symm hLI, hI₀⟩
      · exact N₁ p hp
    have st := step i v I oI m' news' { s₁ with heap := h₁, toks := tk₁ } hlt hP hJ hS' ⟨_, _, rfl⟩ F₁ NI hnw'
    refine wpAny_mono (wpAny_passesOwn hE st) (fun _ s₃ h₃ => wpAny_mono (wpAny_passesOwn hE h₃) (fun f s₄ h₄ => ?_) fun _ _ e => e) fun _ _ e => e
    obtain ⟨rfl, h'', tk'', m₂, news₂, rfl, F₂', N₂', off₂, hJ₂, hS₂⟩ := h₄
    have e' : h''.get? I = some oI := (N₂' _ (.head _)).1
    have st' : St (i + 1) h'' := hSt _ _ _ _ _ hst₁ hoI e' F₂'.keep (fun p hp => N₂' p (.tail _ hp)) hS₂
    exact ⟨n + 1 - (i + 1), by omega, h'', tk'', m₂, news₂, i + 1, rfl, st', F₂', (fun p hp => N₂' p (.tail _ hp)), off₂, hJ₂, hS₂, hlt, rfl⟩
  · obtain rfl : i = n := Nat.le_antisymm hi (Nat.le_of_not_lt hlt)
    refine W.done _ _ _ hst' fun h₁ tk₁ hk₁ => ?_
    obtain ⟨F₁, N₁⟩ := next h₁ hk₁
    show wpAny _ _ (execs [] env) _ _ _
    refine wpAny_execs_nil ?_
    exact fin h₁ tk₁ m' news' F₁ N₁ hJ
theorem For_WF {tgt iter : Expr} {body : List Stmt} {pos : Pos} {Q : PySem.Flow → Shared → Prop} {m : Str → Option Value} (F : Fr h₀ env.locals s.heap m)
    (h : wpAny (model prog w) A (eval iter env) (LoopW prog w A h₀ env tgt body Q E) E s)
    (hs : ∀ x, foldedSetIterable iter env x = pure x := by intro _; rfl)
    (ht : ∀ I v, letOwnedTupleGo tgt (.ref I) v = pure () := by intro _ _; rfl)
    (hE : PassesOwn (model prog w) A env E := by passes_own) :
    wpAny (model prog w) A (exec (.For tgt iter body [] pos) env) Q E s := For_W h₀ h hs ht hE
end
end Mine
end
section
open PySem PySem.W PyProof.Rows PySem.Calls
namespace Mine
theorem adjust_upto (b n : Nat) (hb : b ≤ n) : Builtin.Slice.sliceAdjust none (some (b : Int)) 1 (n : Int) = (0, (b : Int)) := by
  unfold Builtin.Slice.sliceAdjust
  have h1 : ¬ ((1 : Int) < 0) := by omega
  have h2 : ¬ ((b : Int) < 0) := by omega
  simp only [h1, h2, if_false]
  congr 1
  omega
theorem places_upto (b : Nat) : Builtin.Slice.slicePlaces 0 (b : Int) 1 = b := by
  unfold Builtin.Slice.slicePlaces
  have h1 : (1 : Int) > 0 := by omega
  simp only [h1, if_true, Int.ediv_one]
  split <;> omega
section
variable {prog : Program} {w : World} {A : Around} {E : Value → Shared → Prop} {s : Shared} {h₀ : Heap} {L : Addr} {m : Str → Option Value} {news : List (Addr × Obj)}
theorem sliceApplied_upto {sl : Addr} {b n : Nat} {u : Tok} {Q : Int × Int × Nat → Shared → Prop} (hs : s.heap.IsSliceOf sl .none (.int b u) .none) (hb : b ≤ n) (h : Q (0, 1, b) s) :
    wpAny (model prog w) A (Builtin.Slice.sliceApplied (.ref sl) (pure (n : Int))) Q E s := by
  obtain ⟨os, hos, hcs, hds⟩ := id hs
  unfold Builtin.Slice.sliceApplied Builtin.Slice.sliceFields
  refine wpAny_bind (wpAny_bind (wpAny_field hos hds (x := .none) rfl (wpAny_bind (wpAny_field hos hds (x := .int b u) rfl (wpAny_bind (wpAny_field hos hds (x := .none) rfl (wpAny_pure ?_)))))))
  refine wpAny_bind (slicePart_none ?_)
  show wpAny _ _ (if ((1 : Int) == 0) = true then _ else _) _ _ s
  rw [if_neg (by decide)]
  refine wpAny_bind (slicePart_none (wpAny_bind (slicePart_int (wpAny_bind (wpAny_pure ?_)))))
  show wpAny _ _ (match Builtin.Slice.sliceAdjust none (some (b : Int)) 1 (n : Int) with | (lo, hi) => pure (lo, (1 : Int), Builtin.Slice.slicePlaces lo hi 1)) _ _ s
  rw [adjust_upto b n hb]
  show wpAny _ _ (pure (0, (1 : Int), Builtin.Slice.slicePlaces 0 (b : Int) 1)) _ _ s
  rw [places_upto b]
  exact wpAny_pure h
theorem getItem_tup1 {t sl : Addr} {x y : Value} {u : Tok} {Q : Value → Shared → Prop} (ht : IsTup s.heap t #[x, y]) (hs : s.heap.IsSliceOf sl .none (.int 1 u) .none)
    (h : Q (.ref s.heap.objs.size) { s with heap := s.heap.push { cls := .type "tuple", data := .seq #[x] } }) : wpAny (model prog w) A (getItem (.ref t) (.ref sl)) Q E s := by
  obtain ⟨os, hos, hcs, hds⟩ := id hs
  have hTs : s.TypeIs (.ref sl) "slice" := ⟨os, hos, hcs⟩
  unfold getItem
  try with_reducible refine wpAny_holding ?_
  first | refine wpAny_bind (wpAny_pure ?_) | skip
  refine wpAny_bind (wpAny_sequenceKey ht.typeIs (by decide) ?_)
  refine wpAny_bind (wpAny_callSpecial?_slot (name := Str.ofString "__getitem__") ht.typeIs slot_tuple_getitem
    (wpAny_call_entry slot_tuple_getitem ht.typeIs entry_tuple_getitem ?_ (args_tuple_getitem _ _)))
  show wpAny _ _ (Builtin.Tuple.tupleItemsOf (.ref t) >>= _) _ _ s
  refine wpAny_bind (tupleItemsOf_ ht ?_)
  refine wpAny_bind (wpAny_typeOf hTs ?_)
  rw [if_pos (by decide)]
  refine wpAny_bind (sliceApplied_upto (b := 1) (n := 2) hs (by decide) ?_)
  show wpAny _ _ (if ((0 : Int) == 0 && (1 : Int) == 1 && (1 : Nat) == 2) = true then _ else _) _ _ s
  rw [if_neg (by decide)]
  have e : ((List.range 1).filterMap fun (k : Nat) => (#[x, y] : Array Value)[((0 : Int) + (k : Int) * 1).toNat]?).toArray = #[x] := rfl
  rw [e]
  have hd : sizeOk (.seq #[x]) := by show (#[x] : Array Value).size ≤ sizeLine; exact (by decide : 1 ≤ sizeLine)
  first
    | exact wpAny_bind (m := Builtin.Tuple.tupleExact _) (wpAny_newObj_type (wpAny_pure ⟨_, rfl, wpAny_pure h⟩) hd)
    | exact wpAny_bind (m := Builtin.Tuple.tupleExact _) (wpAny_newObj_type (wpAny_bind (wpAny_pure (wpAny_pure ⟨_, rfl, wpAny_pure h⟩))) hd)
    | exact wpAny_bind (wpAny_bind (m := Builtin.Tuple.tupleExact _) (wpAny_newObj_type (wpAny_pure (wpAny_pure ⟨_, rfl, wpAny_pure h⟩)) hd))
    | exact wpAny_bind (wpAny_bind (m := Builtin.Tuple.tupleExact _) (wpAny_newObj_type (wpAny_pure ⟨_, rfl, wpAny_pure h⟩) hd))
theorem getItem_tup2 {t sl : Addr} {x y : Value} {u : Tok} {Q : Value → Shared → Prop} (ht : IsTup s.heap t #[x, y]) (hs : s.heap.IsSliceOf sl .none (.int 2 u) .none)
    (h : Q (.ref t) s) : wpAny (model prog w) A (getItem (.ref t) (.ref sl)) Q E s := by
  obtain ⟨os, hos, hcs, hds⟩ := id hs
  have hTs : s.TypeIs (.ref sl) "slice" := ⟨os, hos, hcs⟩
  unfold getItem
  try with_reducible refine wpAny_holding ?_
  first | refine wpAny_bind (wpAny_pure ?_) | skip
  refine wpAny_bind (wpAny_sequenceKey ht.typeIs (by decide) ?_)
  refine wpAny_bind (wpAny_callSpecial?_slot (name := Str.ofString "__getitem__") ht.typeIs slot_tuple_getitem
    (wpAny_call_entry slot_tuple_getitem ht.typeIs entry_tuple_getitem ?_ (args_tuple_getitem _ _)))
  show wpAny _ _ (Builtin.Tuple.tupleItemsOf (.ref t) >>= _) _ _ s
  refine wpAny_bind (tupleItemsOf_ ht ?_)
  refine wpAny_bind (wpAny_typeOf hTs ?_)
  rw [if_pos (by decide)]
  refine wpAny_bind (sliceApplied_upto (b := 2) (n := 2) hs (by decide) ?_)
  show wpAny _ _ (if ((0 : Int) == 0 && (1 : Int) == 1 && (2 : Nat) == 2) = true then _ else _) _ _ s
  rw [if_pos (by decide)]
  unfold Builtin.Tuple.tupleIsExact
  refine wpAny_bind (wpAny_bind (wpAny_typeOf ht.typeIs (wpAny_pure ?_)))
  rw [if_pos (by decide)]
  first
    | exact wpAny_pure ⟨_, rfl, wpAny_pure h⟩
    | exact wpAny_bind (wpAny_pure ⟨_, rfl, wpAny_pure h⟩)
    | exact wpAny_bind (wpAny_rule (wpAny_pure ⟨_, rfl, wpAny_pure h⟩))
theorem slice_tup1 {value slice : PySem.Expr} {t : Addr} {x y : Value} {n : Nat} {u : Tok} {Q : Value → Shared → Prop} (F : Fr h₀ L s.heap m) (N : News h₀ L s.heap news) (hm : (t, ({ cls := .type "tuple", data := .seq #[x, y] n } : Obj)) ∈ news)
    (h : ∀ D h', Fr h₀ L h' m → News h₀ L h' ((D, { cls := .type "tuple", data := .seq #[x] }) :: news) → (∀ p ∈ news, p.1 < D) → Q (.ref D) { s with heap := h' })
    (hs : subscripted slice false (.ref t) (.ref s.heap.objs.size) = operate [.ref s.heap.objs.size, .ref t] (getItem (.ref t) (.ref s.heap.objs.size)))
    (hg : ∀ r, letTemporaryGo value (.ref t) r = pure ()) :
    wpAny (model prog w) A (subscriptTail value slice (.ref t) (.ref s.heap.objs.size)) Q E { s with heap := s.heap.push { cls := .type "slice", data := .fields #[.none, .int 1 u, .none] } } := by
  have ht : IsTup (s.heap.push { cls := .type "slice", data := .fields #[.none, .int 1 u, .none] }) t #[x, y] := ⟨_, Heap.get?_push_of_some _ (N.get hm), rfl, n, rfl⟩
  refine subscriptTail_ops (s := { s with heap := s.heap.push { cls := .type "slice", data := .fields #[.none, .int 1 u, .none] } }) ht.typeIs slot_tuple_getitem.lookup
    (getItem_tup1 ht (Heap.IsSliceOf.new ..) ?_) hs hg
  have N1 := News.push (F.push { cls := .type "slice", data := .fields #[.none, .int 1 u, .none] }) (N.grown fun _ _ e => Heap.get?_push_of_some _ e) { cls := .type "tuple", data := .seq #[x] }
  exact h _ _ ((F.push _).push _) N1 (fun p hp => Heap.lt_size (Heap.get?_push_of_some _ (N p hp).1))
theorem slice_tup2 {value slice : PySem.Expr} {t : Addr} {x y : Value} {n : Nat} {u : Tok} {Q : Value → Shared → Prop} (F : Fr h₀ L s.heap m) (N : News h₀ L s.heap news) (hm : (t, ({ cls := .type "tuple", data := .seq #[x, y] n } : Obj)) ∈ news)
    (h : ∀ h', Fr h₀ L h' m → News h₀ L h' news → Q (.ref t) { s with heap := h' })
    (hs : subscripted slice false (.ref t) (.ref s.heap.objs.size) = operate [.ref s.heap.objs.size, .ref t] (getItem (.ref t) (.ref s.heap.objs.size)))
    (hg : ∀ r, letTemporaryGo value (.ref t) r = pure ()) :
    wpAny (model prog w) A (subscriptTail value slice (.ref t) (.ref s.heap.objs.size)) Q E { s with heap := s.heap.push { cls := .type "slice", data := .fields #[.none, .int 2 u, .none] } } := by
  have ht : IsTup (s.heap.push { cls := .type "slice", data := .fields #[.none, .int 2 u, .none] }) t #[x, y] := ⟨_, Heap.get?_push_of_some _ (N.get hm), rfl, n, rfl⟩
  refine subscriptTail_ops (s := { s with heap := s.heap.push { cls := .type "slice", data := .fields #[.none, .int 2 u, .none] } }) ht.typeIs slot_tuple_getitem.lookup
    (getItem_tup2 ht (Heap.IsSliceOf.new ..) ?_) hs hg
  exact h _ (F.push _) (N.grown fun _ _ e => Heap.get?_push_of_some _ e)
theorem split01 {v : Int} (h0 : 0 ≤ v) (h1 : v < 2) : v = 0 ∨ v = 1 := by omega
end
end Mine
end
section
open PySem PySem.W PyProof.Rows PySem.Calls
set_option maxHeartbeats 2000000
namespace Mine
open PyProof.Rows.LCg
theorem ex6a11 {α1 α2 α3 α4 α5 α6 : Type} {p1 p2 p3 p4 p5 p6 p7 p8 p9 p10 p11 : α1 → α2 → α3 → α4 → α5 → α6 → Prop} {G : Prop} (h : ∃ a1 a2 a3 a4 a5 a6, p1 a1 a2 a3 a4 a5 a6 ∧ p2 a1 a2 a3 a4 a5 a6 ∧ p3 a1 a2 a3 a4 a5 a6 ∧ p4 a1 a2 a3 a4 a5 a6 ∧ p5 a1 a2 a3 a4 a5 a6 ∧ p6 a1 a2 a3 a4 a5 a6 ∧ p7 a1 a2 a3 a4 a5 a6 ∧ p8 a1 a2 a3 a4 a5 a6 ∧ p9 a1 a2 a3 a4 a5 a6 ∧ p10 a1 a2 a3 a4 a5 a6 ∧ p11 a1 a2 a3 a4 a5 a6) (k : ∀ a1 a2 a3 a4 a5 a6, p1 a1 a2 a3 a4 a5 a6 → p2 a1 a2 a3 a4 a5 a6 → p3 a1 a2 a3 a4 a5 a6 → p4 a1 a2 a3 a4 a5 a6 → p5 a1 a2 a3 a4 a5 a6 → p6 a1 a2 a3 a4 a5 a6 → p7 a1 a2 a3 a4 a5 a6 → p8 a1 a2 a3 a4 a5 a6 → p9 a1 a2 a3 a4 a5 a6 → p10 a1 a2 a3 a4 a5 a6 → p11 a1 a2 a3 a4 a5 a6 → G) : G :=
  h.elim fun a1 h => h.elim fun a2 h => h.elim fun a3 h => h.elim fun a4 h => h.elim fun a5 h => h.elim fun a6 h => k a1 a2 a3 a4 a5 a6 h.1 h.2.1 h.2.2.1 h.2.2.2.1 h.2.2.2.2.1 h.2.2.2.2.2.1 h.2.2.2.2.2.2.1 h.2.2.2.2.2.2.2.1 h.2.2.2.2.2.2.2.2.1 h.2.2.2.2.2.2.2.2.2.1 h.2.2.2.2.2.2.2.2.2.2
theorem ex6a5 {α1 α2 α3 α4 α5 α6 : Type} {p1 p2 p3 p4 p5 : α1 → α2 → α3 → α4 → α5 → α6 → Prop} {G : Prop} (h : ∃ a1 a2 a3 a4 a5 a6, p1 a1 a2 a3 a4 a5 a6 ∧ p2 a1 a2 a3 a4 a5 a6 ∧ p3 a1 a2 a3 a4 a5 a6 ∧ p4 a1 a2 a3 a4 a5 a6 ∧ p5 a1 a2 a3 a4 a5 a6) (k : ∀ a1 a2 a3 a4 a5 a6, p1 a1 a2 a3 a4 a5 a6 → p2 a1 a2 a3 a4 a5 a6 → p3 a1 a2 a3 a4 a5 a6 → p4 a1 a2 a3 a4 a5 a6 → p5 a1 a2 a3 a4 a5 a6 → G) : G :=
  h.elim fun a1 h => h.elim fun a2 h => h.elim fun a3 h => h.elim fun a4 h => h.elim fun a5 h => h.elim fun a6 h => k a1 a2 a3 a4 a5 a6 h.1 h.2.1 h.2.2.1 h.2.2.2.1 h.2.2.2.2
section
variable {prog : Program} {w : World} {A : Around} {E : Value → Shared → Prop} {s : Shared} {h₀ : Heap} {L : Addr} {m : PySem.Str → Option Value} {env : Env}
/-- one turn of a comprehension whose target is three names, by what holds between the turns -/
noncomputable def Turn3 (prog : Program) (w : World) (A : Around) (h₀ : Heap) (L : Addr) (m : PySem.Str → Option Value) (env : Env) (elt : Expr) (x y z : PySem.Str) (scope : Scope) (cl : List (PySem.Str × Addr)) (s : Shared) (S : List (Addr × Obj) → Prop) (P : Nat → Value → Prop)
    (J : Nat → List Value → List (Addr × Obj) → Prop) (n : Nat) : Prop :=
  ∀ i ys news v, i < n → J i ys news → P i v → ∃ (t : Addr) (ot : Obj) (v1 v2 v3 : Value) (nt : Nat), v = .ref t ∧ (t, ot) ∈ news ∧ ot.cls = .type "tuple" ∧ ot.data = .seq #[v1, v2, v3] nt ∧
    ∀ I oI C oC D m₂ h tk (E' : Value → Shared → Prop), NsObj oC m₂ → m₂ x = some v1 → m₂ y = some v2 → m₂ z = some v3 → Fr h₀ L h m → News h₀ L h ((I, oI) :: (C, oC) :: (D, lst ys) :: news) → Off3 I C D news → ((@Ne Nat I C) ∧ (@Ne Nat I D) ∧ (@Ne Nat C D)) →
      wpAny (model prog w) A (eval elt (compEnvC scope cl C env)) (CompEnd h₀ L m { s with heap := h, toks := tk } I oI C oC D (lst ys) S (fun r news' => J (i + 1) (ys ++ [r]) news')) E' { s with heap := h, toks := tk }
theorem block_3 {elt iter : Expr} {x y z : PySem.Str} {px py pz tp : Pos} {c3} {scope : Scope} {cl : List (PySem.Str × Addr)} {pos : Pos} {s₂ : Shared} {l : Addr} {its : Array Value} {J : Nat → List Value → List (Addr × Obj) → Prop} {news : List (Addr × Obj)} {RR : Value → Addr → Result → Shared → Prop}
    (hh : A.handled = none) (hsz : its.size ≤ sizeLine) (hcell : ∀ q ∈ scope.names, q.2 ≠ .cell) (hkind : scope.kind = .function)
    (hx : scope.names.lookup x = some .local) (hy : scope.names.lookup y = some .local) (hz : scope.names.lookup z = some .local) (hxy : x ≠ y) (hxz : x ≠ z) (hyz : y ≠ z)
    {I : Addr} (hl : I ≠ l) (st0 : s₂.heap.IsListIter I l 0 ∧ s₂.heap.IsList l its) (hIlt : I < s₂.heap.objs.size) (hllt : l < s₂.heap.objs.size)
    (F : Fr h₀ L s₂.heap m) (N : News h₀ L s₂.heap news) (hIL : L ≠ I) (hI₀ : h₀.get? I = none) (off : ∀ p ∈ news, p.1 ≠ I) (hS : SrcAt h₀ l its news) (hJ : J 0 [] news)
    (turn : Turn3 prog w A h₀ L m env elt x y z scope cl s₂ (SrcAt h₀ l its) (fun i v => its[i]? = some v) J its.size)
    (hRR : ∀ D C h tk m' ys news', Fr h₀ L h m → News h₀ L h ((D, lst ys) :: news') → Off1 D news' → h.Ns C m' → h₀.get? C = none → h₀.get? D = none → C ≠ L → D ≠ L → C ≠ D → (∀ p ∈ news', p.1 ≠ C) → J its.size ys news' → RR (.ref D) C (.ok .next) { s₂ with heap := h, toks := tk }) :
    wpAny (model prog w) A (newList []) (fun acc s₃ => wpAny (model prog w) A (newFunctionEnv scope env.globals cl [] env.qual none .none (some env)) (fun cenv s₄ =>
      codeAny (model prog w) A (.compStart (.ListComp elt [⟨.Tuple [.Name x px, .Name y py, .Name z pz] c3 tp, iter, [], 0⟩] scope pos) 0 (.ref I) acc { cenv with scope := relabel scope env }) (RR acc cenv.locals) s₄) E s₃) E s₂ := by
  have W := Walks.list (prog := prog) (w := w) hh I l (Ne.symm hl) its
  refine wpAny_newObj_type (wpAny_newFunctionEnv hcell (by intro q hq; simp at hq) (fun h₁ hns₁ hsb₁ => ?_) hkind)
  dsimp only at hns₁ hsb₁ ⊢
  obtain ⟨D, hDe⟩ : ∃ D, D = s₂.heap.objs.size := ⟨_, rfl⟩
  generalize hH2 : s₂.heap.push { cls := .type "list", dict := none, data := .seq ([] : List Value).toArray } = H2 at hns₁ hsb₁ ⊢
  have hCe : H2.objs.size = D + 1 := by rw [← hH2, Heap.size_push, hDe]
  obtain ⟨C, hC⟩ : ∃ C, C = H2.objs.size := ⟨_, rfl⟩
  rw [← hC] at hns₁ hsb₁ hCe ⊢
  rw [← hDe]
  have iC : I ≠ C := by rw [hCe]; exact Nat.ne_of_lt (Nat.lt_succ_of_lt (hDe ▸ hIlt))
  have iD : I ≠ D := Nat.ne_of_lt (hDe ▸ hIlt)
  have lC : l ≠ C := by rw [hCe]; exact Nat.ne_of_lt (Nat.lt_succ_of_lt (hDe ▸ hllt))
  have lD : l ≠ D := Nat.ne_of_lt (hDe ▸ hllt)
  have dC : D ≠ C := by rw [hCe]; exact Nat.ne_of_lt (Nat.lt_succ_self _)
  have old : ∀ b o, s₂.heap.get? b = some o → h₁.get? b = some o := fun b o e =>
    hsb₁.extBut b o (by rw [hCe]; exact Nat.ne_of_lt (Nat.lt_succ_of_lt (hDe ▸ Heap.lt_size e))) (Heap.get?_push_of_some _ (hH2 ▸ Heap.get?_push_of_some _ e))
  have hacc : h₁.get? D = some (lst []) := hsb₁.extBut _ _ dC (Heap.get?_push_of_some _ (by rw [hDe, ← hH2]; exact Heap.get?_push_size _ rfl))
  have new : ∀ a, s₂.heap.objs.size ≤ a → h₀.get? a = none := fun a ha => by
    cases e : h₀.get? a with
    | none => rfl
    | some o' => exact absurd (Heap.lt_size (F.keep a o' e)) (Nat.not_lt.mpr ha)
  have hD₀ : h₀.get? D = none := new _ (Nat.le_of_eq hDe.symm)
  have hC₀ : h₀.get? C = none := new _ (by rw [hCe, hDe]; exact Nat.le_succ _)
  have hLD : L < D := hDe ▸ F.ns.lt
  have hDL : D ≠ L := Ne.symm (Nat.ne_of_lt hLD)
  have hCL : C ≠ L := by rw [hCe]; exact Ne.symm (Nat.ne_of_lt (Nat.lt_succ_of_lt hLD))
  have lt : ∀ p ∈ news, p.1 < D := fun p hp => hDe ▸ Heap.lt_size (N p hp).1
  have off₀ : Off3 I C D news := Off3.of fun p hp => ⟨off p hp, by rw [hCe]; exact Nat.ne_of_lt (Nat.lt_succ_of_lt (lt p hp)), Nat.ne_of_lt (lt p hp)⟩
  have kC : ∀ {h h' : Heap} {i : Nat}, (h.IsListIter I l i ∧ h.IsList l its) → (∀ b o, b ≠ C → b ≠ D → h.get? b = some o → h'.get? b = some o) → (h'.IsListIter I l i ∧ h'.IsList l its) := by
    rintro h h' i ⟨⟨o, e, r⟩, ⟨o', e', r'⟩⟩ k
    exact ⟨⟨o, k _ _ iC iD e, r⟩, ⟨o', k _ _ lC lD e', r'⟩⟩
  have loop : ∀ s₃ : Shared, s₃ = { s₂ with heap := h₁, toks := s₂.toks + ([] : List (PySem.Str × Value)).length } →
      codeAny (model prog w) A (.compLoop (.ListComp elt [⟨.Tuple [.Name x px, .Name y py, .Name z pz] c3 tp, iter, [], 0⟩] scope pos) 0 (.ref I) (.ref D) (compEnvC scope cl C env)) (RR (.ref D) C) s₃ := by
    rintro s₃ rfl
    refine LCp.codeAny_compLoop_pair
      (fun k s' => ∃ h' tk i ys m' news', s' = { s₂ with heap := h', toks := tk } ∧ i ≤ its.size ∧ k = its.size + 1 - i ∧ ys.length = i ∧ (h'.IsListIter I l i ∧ h'.IsList l its) ∧ Fr h₀ L h' m ∧ h'.Ns C m' ∧ News h₀ L h' ((D, lst ys) :: news') ∧
        Off3 I C D news' ∧ SrcAt h₀ l its news' ∧ J i ys news') ?_ (its.size + 1)
      ⟨h₁, _, 0, [], _, news, rfl, Nat.zero_le _, rfl, rfl, kC st0 (fun b o _ _ e => old b o e), F.keeps old, hns₁, fun p hp => ?_, off₀, hS, hJ⟩
    · intro k s' hI9
      refine ex6a11 hI9 fun h' tk i ys m' news' e1 hi e2 hyl hst' F' hn' N' off' hS' J' => ?_
      clear hI9
      subst e1 e2
      have o3 := off'.mem
      by_cases hlt : i < its.size
      · refine W.item i _ _ _ hlt hst' fun v h₂ tk₂ hPv hst₂ hk₂ => ?_
        refine ex6a5 (turn i ys news' v hlt J' hPv) fun t ot v1 v2 v3 nt e3 hmt hct hdt R => ?_
        subst e3
        have N₂ : News h₀ L h₂ ((D, lst ys) :: news') := news_but N' hk₂ fun p hp => by
          rcases List.mem_cons.mp hp with rfl | hp
          · exact Ne.symm iD
          · exact (o3 p hp).1
        have n2 : h₂.Ns C m' := hn'.at' fun o e => hk₂ _ o (by simpa using Ne.symm iC) e
        have ht : IsTup h₂ t #[v1, v2, v3] := ⟨ot, (N₂ _ (.tail _ hmt)).1, hct, nt, hdt⟩
        obtain ⟨iI, iL⟩ := hst₂
        refine wpAny_letOwnedTupleGo_listiter iI ?_
        refine assign_Tuple_tuple hh ht rfl rfl fun h₃ he => ?_
        have he' : ∀ b o, h₂.get? b = some o → h₃.get? b = some o := fun b o e => he b o (Nat.ne_of_lt (Heap.lt_size e)) e
        have fk : (compEnvC scope cl C env).scope.kind = .function := by simp [compEnvC, relabel, hkind]
        refine assignInOrder_cons (wpAny_assign_Name (wpAny_storeName_local (lookup_relabel_local hx) (n2.at' fun o e => he' _ o e) (fun h₄ n4 s4 => ?_) (by simp [compEnvC, relabel, hkind])))
        refine assignInOrder_cons (wpAny_assign_Name (wpAny_storeName_local (lookup_relabel_local hy) n4 (fun h₅ n5 s5 => ?_) (by simp [compEnvC, relabel, hkind])))
        refine assignInOrder_cons (wpAny_assign_Name (wpAny_storeName_local (lookup_relabel_local hz) n5 (fun h₆ n6 s6 => ?_) (by simp [compEnvC, relabel, hkind])))
        refine assignInOrder_nil ?_
        have old6 : ∀ b o, b ≠ C → h₂.get? b = some o → h₆.get? b = some o := fun b o hb e => s6.extBut b o hb (s5.extBut b o hb (s4.extBut b o hb (he' b o e)))
        have hst6 := kC ⟨iI, iL⟩ (h' := h₆) fun b o h _ e => old6 b o h e
        obtain ⟨oI, heI, rI⟩ := hst6.1
        obtain ⟨oC, heC, hoC⟩ := ns_obj n6
        have F6 : Fr h₀ L h₆ m := ((((fr_but F' hk₂ hIL hI₀).keeps he').change s4 hCL hC₀).change s5 hCL hC₀).change s6 hCL hC₀
        have N6 : News h₀ L h₆ ((I, oI) :: (C, oC) :: (D, lst ys) :: news') := fun p hp => by
          rcases List.mem_cons.mp hp with rfl | hp
          · exact ⟨heI, Ne.symm hIL, hI₀⟩
          · rcases List.mem_cons.mp hp with rfl | hp
            · exact ⟨heC, hCL, hC₀⟩
            · refine ⟨old6 _ _ ?_ (N₂ p hp).1, (N₂ p hp).2⟩
              rcases List.mem_cons.mp hp with rfl | hp
              · exact dC
              · exact (o3 p hp).2.1
        refine wpAny_mono (R I oI C oC D _ h₆ _ _ hoC (by simp [hxy, hxz]) (by simp [hyz]) (by simp) F6 N6 off' ⟨iC, iD, Ne.symm dC⟩) (fun r s₄ h₄ => ?_) fun _ _ e => e
        obtain ⟨h₇, tk₇, news₇, rfl, F7, N7, off7, hS7, J7⟩ := h₄
        have zI := (N7 (I, oI) (.head _)).1
        have zC := (N7 (C, oC) (.tail _ (.head _))).1
        have zD := (N7 (D, lst ys) (.tail _ (.tail _ (.head _)))).1
        have N7' : News h₀ L h₇ news₇ := fun p hp => N7 p (.tail _ (.tail _ (.tail _ hp)))
        have st7 : h₇.IsListIter I l (i + 1) ∧ h₇.IsList l its := ⟨⟨oI, zI, rI⟩, hS7.list F7.keep N7'⟩
        have o7 := off7.mem
        refine append_at (hsz := by show ys.toArray.size ≤ sizeLine; rw [List.size_toArray, hyl]; exact Nat.le_trans hi hsz) zD fun h₈ s8 d8 => ?_
        refine ⟨its.size + 1 - (i + 1), by lia, h₈, tk₇, i + 1, ys ++ [r], _, news₇, rfl, hlt, rfl, by rw [List.length_append, List.length_singleton, hyl], kC st7 (fun b o _ h e => s8.extBut b o h e), F7.change s8 hDL hD₀,
          (hoC.ns zC).sameBut s8 (Ne.symm dC), fun p hp => ?_, off7, hS7, J7⟩
        rcases List.mem_cons.mp hp with rfl | hp
        · exact ⟨d8.trans (congrArg some (lst_snoc ys r)), hDL, hD₀⟩
        · exact ⟨s8.extBut _ _ (o7 p hp).2.2 (N7' p hp).1, (N7' p hp).2⟩
      · obtain rfl : i = its.size := Nat.le_antisymm hi (Nat.not_lt.mp hlt)
        refine W.done _ _ _ hst' fun h₂ tk₂ hk₂ => ?_
        exact hRR _ _ h₂ tk₂ _ ys news' (fr_but F' hk₂ hIL hI₀) (news_but N' hk₂ fun p hp => by
          rcases List.mem_cons.mp hp with rfl | hp
          · exact Ne.symm iD
          · exact (o3 p hp).1) off'.one (hn'.at' fun o e => hk₂ _ o (by simpa using Ne.symm iC) e) hC₀ hD₀ hCL hDL (Ne.symm dC) (fun p hp => (o3 p hp).2.1) J'
    · rcases List.mem_cons.mp hp with rfl | hp
      · exact ⟨hacc, hDL, hD₀⟩
      · exact ⟨old _ _ (N p hp).1, (N p hp).2⟩
  exact codeAny_compStart_list (loop _ rfl) (W.self 0 _ _ _ (kC st0 (fun b o _ _ e => old b o e)) (loop _ rfl))
noncomputable def Src3 (prog : Program) (w : World) (A : Around) (h₀ : Heap) (L : Addr) (m : PySem.Str → Option Value) (env : Env) (elt : Expr) (x y z : PySem.Str) (scope : Scope) (cl : List (PySem.Str × Addr)) (Fin : Shared → List Value → List (Addr × Obj) → Prop) (xv : Value) (s₁ : Shared) : Prop :=
  ∃ J ax its news, xv = .ref ax ∧ A.handled = none ∧ Fr h₀ L s₁.heap m ∧ News h₀ L s₁.heap news ∧ SrcAt h₀ ax its news ∧ its.size ≤ sizeLine ∧ J 0 [] news ∧
    (∀ g, Turn3 prog w A h₀ L m env elt x y z scope cl { s₁ with heap := g } (SrcAt h₀ ax its) (fun i v => its[i]? = some v) J its.size) ∧ ∀ g ys news', J its.size ys news' → Fin { s₁ with heap := g } ys news'
theorem ListComp_3 {elt iter : Expr} {x y z : PySem.Str} {px py pz tp : Pos} {c3} {scope : Scope} {cl : List (PySem.Str × Addr)} {pos : Pos} {Q : Value → Shared → Prop}
    (hclos : closureFor scope env = pure cl) (hcell : ∀ q ∈ scope.names, q.2 ≠ .cell) (hkind : scope.kind = .function)
    (hnames : ∀ q ∈ scope.names, q.2 = .local → scope.names.lookup q.1 = some .local) (hx : scope.names.lookup x = some .local) (hy : scope.names.lookup y = some .local) (hz : scope.names.lookup z = some .local) (hxy : x ≠ y) (hxz : x ≠ z) (hyz : y ≠ z)
    (hs : ∀ x, foldedSetIterable iter env x = pure x)
    (h : wpAny (model prog w) A (eval iter env) (Src3 prog w A h₀ L m env elt x y z scope cl (fun s₂ => FinE h₀ L m s₂ Q)) E s) :
    wpAny (model prog w) A (eval (.ListComp elt [⟨.Tuple [.Name x px, .Name y py, .Name z pz] c3 tp, iter, [], 0⟩] scope pos) env) Q E s := by
  rw [eval_ListComp]
  refine wpAny_comprehension_free (use := none) rfl hs hclos hkind hnames (wpAny_mono h (fun xv s₁ h₁ => ?_) fun _ _ e => e)
  obtain ⟨J, ax, its, news, rfl, hh, F, N, S, hsz, hJ, turn, fin⟩ := h₁
  have hl := S.list F.keep N
  have hlt : ax < s₁.heap.objs.size := by obtain ⟨_, e, _⟩ := hl; exact Heap.lt_size e
  refine wpAny_pyIter_list hl ?_
  refine block_3 hh hsz hcell hkind hx hy hz hxy hxz hyz (Ne.symm (Nat.ne_of_lt hlt)) ⟨⟨_, Heap.get?_push_size _ rfl, rfl, rfl⟩, hl.push _⟩ (by show _ < (s₁.heap.push _).objs.size; rw [Heap.size_push]; exact Nat.lt_succ_self _) (by show _ < (s₁.heap.push _).objs.size; rw [Heap.size_push]; exact Nat.lt_succ_of_lt hlt)
    (F.push _) (fun p hp => ⟨Heap.get?_push_of_some _ (N p hp).1, (N p hp).2⟩) (Nat.ne_of_lt F.ns.lt) (next_is_new F) (fun p hp => Nat.ne_of_lt (Heap.lt_size (N p hp).1)) S hJ (turn _) ?_
  intro D C h tk m' ys news' F' N' o1 hn hC₀ hD₀ hCL hDL hCD offC hj
  refine ⟨m', hn, fun h'' hs'' => fin (s₁.heap.push { cls := .type "list_iterator", data := .fields #[.ref ax, .int 0 0] }) ys news' hj D h'' tk (F'.change hs'' hCL hC₀) (fun p hp => ?_) o1⟩
  refine ⟨hs''.extBut _ _ ?_ (N' p hp).1, (N' p hp).2⟩
  rcases List.mem_cons.mp hp with rfl | hp
  · exact Ne.symm hCD
  · exact offC p hp
end
end Mine
end
section
open PySem PySem.W PyProof.Rows PySem.Calls
namespace Mine
open PyProof.Rows.LCg
section
variable {prog : Program} {w : World} {A : Around} {E : Value → Shared → Prop} {s : Shared} {h₀ : Heap} {env : Env}
/-- a for over a list of tuples that stand, its target a tuple -/
noncomputable def LoopL (prog : Program) (w : World) (A : Around) (h₀ : Heap) (env : Env) (tgt : Expr) (body : List Stmt) (Q : PySem.Flow → Shared → Prop) (E : Value → Shared → Prop) (xv : Value) (s₁ : Shared) : Prop :=
  ∃ (J : Nat → (PySem.Str → Option Value) → List (Addr × Obj) → Prop) (ax : Addr) (its : Array Value) (m : PySem.Str → Option Value) (news : List (Addr × Obj)), xv = .ref ax ∧ A.handled = none ∧
    Fr h₀ env.locals s₁.heap m ∧ News h₀ env.locals s₁.heap news ∧ SrcAt h₀ ax its news ∧ (∀ (i : Nat) (v : Value), its[i]? = some v → ∃ T, v = Value.ref T) ∧ J 0 m news ∧
    (∀ (i : Nat) (v : Value) I oI m₁ news₁ h tk, i < its.size → its[i]? = some v → J i m₁ news₁ → SrcAt h₀ ax its news₁ → Fr h₀ env.locals h m₁ → News h₀ env.locals h ((I, oI) :: news₁) → (∀ p ∈ news₁, p.1 ≠ I) →
      wpAny (model prog w) A (assign tgt env v) (fun _ s₃ => wpAny (model prog w) A (execs body env) (StepW h₀ env.locals I oI (fun m₂ news₂ => J (i + 1) m₂ news₂ ∧ SrcAt h₀ ax its news₂) s₁) E s₃) E { s₁ with heap := h, toks := tk }) ∧
    (∀ h' tk m' news', Fr h₀ env.locals h' m' → News h₀ env.locals h' news' → J its.size m' news' → Q .next { s₁ with heap := h', toks := tk })
theorem For_L {elts : List Expr} {k : Nat} {tpos : Pos} {iter : Expr} {body : List Stmt} {pos : Pos} {Q : PySem.Flow → Shared → Prop} (h₀ : Heap)
    (h : wpAny (model prog w) A (eval iter env) (LoopL prog w A h₀ env (.Tuple elts k tpos) body Q E) E s)
    (hs : ∀ x, foldedSetIterable iter env x = pure x)
    (hE : PassesOwn (model prog w) A env E) :
    wpAny (model prog w) A (exec (.For (.Tuple elts k tpos) iter body [] pos) env) Q E s := by
  refine wpAny_For (wpAny_mono h (fun xv s₁ h₁ => ?_) fun _ _ e => e) hs
  obtain ⟨J, ax, its, m, news, rfl, hh, F, N, hS, hT, h0, step, fin⟩ := h₁
  have hl := hS.list F.keep N
  have hlt : ax < s₁.heap.objs.size := by obtain ⟨_, e, _⟩ := hl; exact Heap.lt_size e
  refine wpAny_pyIter_list hl ?_
  have W := Walks.list (prog := prog) (w := w) hh s₁.heap.objs.size ax (Nat.ne_of_lt hlt) its
  generalize hIe : s₁.heap.objs.size = I at W ⊢
  have hLI : env.locals ≠ I := by rw [← hIe]; exact Nat.ne_of_lt F.ns.lt
  have hI₀ : h₀.get? I = none := by rw [← hIe]; exact next_is_new F
  have off : ∀ p ∈ news, p.1 ≠ I := fun p hp => by rw [← hIe]; exact Nat.ne_of_lt (Heap.lt_size (N p hp).1)
  have F₂ : Fr h₀ env.locals (s₁.heap.push { cls := .type "list_iterator", data := .fields #[.ref ax, .int 0 0] }) m := F.push _
  have N₂ : News h₀ env.locals (s₁.heap.push { cls := .type "list_iterator", data := .fields #[.ref ax, .int 0 0] }) news := fun p hp => ⟨Heap.get?_push_of_some _ (N p hp).1, (N p hp).2⟩
  have st0 : (s₁.heap.push { cls := .type "list_iterator", data := .fields #[.ref ax, .int 0 0] }).IsListIter I ax 0 ∧ (s₁.heap.push { cls := .type "list_iterator", data := .fields #[.ref ax, .int 0 0] }).IsList ax its :=
    ⟨⟨_, by rw [← hIe]; exact Heap.get?_push_size _ rfl, rfl, rfl⟩, hl.push _⟩
  refine codeAny_forLoop_any (fun k s' => ∃ h' tk m' news' i, s' = { s₁ with heap := h', toks := tk } ∧ (h'.IsListIter I ax i ∧ h'.IsList ax its) ∧ Fr h₀ env.locals h' m' ∧ News h₀ env.locals h' news' ∧ (∀ p ∈ news', p.1 ≠ I) ∧ J i m' news' ∧ SrcAt h₀ ax its news' ∧ i ≤ its.size ∧ k = its.size + 1 - i) ?_ (its.size + 1)
    ⟨_, s₁.toks, m, news, 0, rfl, st0, F₂, N₂, off, h0, hS, Nat.zero_le _, rfl⟩
  rintro k s' ⟨h', tk, m', news', i, rfl, hst', F', N', hnw', hJ, hS', hi, rfl⟩
  have next : ∀ h₁ : Heap, (∀ b o, b ∉ [I] → h'.get? b = some o → h₁.get? b = some o) → Fr h₀ env.locals h₁ m' ∧ News h₀ env.locals h₁ news' := fun h₁ hk₁ =>
    ⟨⟨F'.ns.at' fun o e => hk₁ _ o (by simpa using hLI) e, fun b o e => hk₁ b o (fun hb => by
      rw [List.mem_singleton.mp hb, hI₀] at e; cases e) (F'.keep b o e), F'.above⟩, fun p hp => ⟨hk₁ _ _ (by simpa using hnw' p hp) (N' p hp).1, (N' p hp).2⟩⟩
  by_cases hlt : i < its.size
  · refine W.item i _ _ _ hlt hst' fun v h₁ tk₁ hP hst₁ hk₁ => ?_
    obtain ⟨F₁, N₁⟩ := next h₁ hk₁
    obtain ⟨oI, hoI⟩ : ∃ o, h₁.get? I = some o := by obtain ⟨o, e, _⟩ := hst₁.1; exact ⟨o, e⟩
    have NI : News h₀ env.locals h₁ ((I, oI) :: news') := fun p hp => by
      rcases List.mem_cons.mp hp with rfl | hp
      · exact ⟨hoI, Ne.symm hLI, hI₀⟩
      · exact N₁ p hp
    obtain ⟨T, rfl⟩ := hT i v hP
    refine wpAny_letOwnedTupleGo_listiter (s := { s₁ with heap := h₁, toks := tk₁ }) hst₁.1 ?_
    have st := step i (.ref T) I oI m' news' h₁ tk₁ hlt hP hJ hS' F₁ NI hnw'
    refine wpAny_mono (wpAny_passesOwn hE st) (fun _ s₃ h₃ => wpAny_mono (wpAny_passesOwn hE h₃) (fun f s₄ h₄ => ?_) fun _ _ e => e) fun _ _ e => e
    obtain ⟨rfl, h'', tk'', m₂, news₂, rfl, F₂', N₂', off₂, hJ₂, hS₂⟩ := h₄
    have e' : h''.get? I = some oI := (N₂' _ (.head _)).1
    have st' : h''.IsListIter I ax (i + 1) ∧ h''.IsList ax its := ⟨by obtain ⟨o', q, r⟩ := hst₁.1; rw [hoI] at q; cases q; exact ⟨oI, e', r⟩, hS₂.list F₂'.keep (fun p hp => N₂' p (.tail _ hp))⟩
    exact ⟨its.size + 1 - (i + 1), by omega, h'', tk'', m₂, news₂, i + 1, rfl, st', F₂', (fun p hp => N₂' p (.tail _ hp)), off₂, hJ₂, hS₂, hlt, rfl⟩
  · obtain rfl : i = its.size := Nat.le_antisymm hi (Nat.le_of_not_lt hlt)
    refine W.done _ _ _ hst' fun h₁ tk₁ hk₁ => ?_
    obtain ⟨F₁, N₁⟩ := next h₁ hk₁
    refine wpAny_execs_nil ?_
    exact fin h₁ tk₁ m' news' F₁ N₁ hJ
end
end Mine
end
section
open PySem PySem.W PySem.W.X PyProof.Rows PySem.Calls
namespace Mine
theorem part2 : True := by
  w_top off
  trivial
theorem enc_ex {X Y : Array UInt8} {t : Tok} (h : X = Y) : ∃ t', Value.bytes X t = Value.bytes Y t' := ⟨t, by rw [h]⟩
local macro_rules | `(tactic| x_close) => `(tactic| (refine xend (by assumption) (Mem.start _) ?_; exact enc_ex (by first | rfl | decide +kernel)))
set_option maxRecDepth 100000 in
set_option maxHeartbeats 8000000 in
theorem xenc1 {w : World} {fr : Option (List Env)} {gd : Option (List Code)} {h : Heap} {g : Array GenState} {d : Drawn} {tk : Nat} {os : OsState} {Q E : Value → Shared → Prop} {t u : Tok}
  (KX : (Mine.hd.heap_39 w.params).In h)
  (hx : XEnd h g d os Q (fun v news => ∃ t', v = .bytes #[99, 109, 97, 112] t')) :
  wpAny (model PySem.Challenge.rw_pb0178_01.row.prog w) { handled := none, depth := 500, frames := fr, guards := gd, units := 2000 } (call (.builtin "str.encode") [.str (Str.ofString "cmap") t, .str (Str.ofString "ascii") u]) Q E ⟨h, g, d, tk, os⟩ := by
  x_run
set_option maxRecDepth 100000 in
set_option maxHeartbeats 8000000 in
theorem xenc2 {w : World} {fr : Option (List Env)} {gd : Option (List Code)} {h : Heap} {g : Array GenState} {d : Drawn} {tk : Nat} {os : OsState} {Q E : Value → Shared → Prop} {t u : Tok}
  (KX : (Mine.hd.heap_39 w.params).In h)
  (hx : XEnd h g d os Q (fun v news => ∃ t', v = .bytes #[112, 111, 115, 116] t')) :
  wpAny (model PySem.Challenge.rw_pb0178_01.row.prog w) { handled := none, depth := 500, frames := fr, guards := gd, units := 2000 } (call (.builtin "str.encode") [.str (Str.ofString "post") t, .str (Str.ofString "ascii") u]) Q E ⟨h, g, d, tk, os⟩ := by
  x_run
set_option maxRecDepth 100000 in
theorem enc_method {M : Model} {A : Around} {E : Value → Shared → Prop} {s : Shared} {x : PySem.Str} {t : Tok} {pl : Sem Bool} {Q : Value × List Value → Shared → Prop} (h : Q (.builtin "str.encode", [.str x t]) s) :
    wpAny M A (getMethod (.str x t) (PySem.Str.ofString "encode") pl) Q E s :=
  getMethod_value (T := "str") (name := PySem.Str.ofString "encode") (ga := "object.__getattribute__") (id := "str.encode") (typeIs_str s x t) (by intro _ x; cases x) (by rw [typeLookup_type, builtinLookup_eq_fast]; kernel_rfl) (by decide +kernel) (by rw [typeLookup_type, builtinLookup_eq_fast]; kernel_rfl) PySem.F.slot_str_encode.lookup PySem.F.type_str_encode h
theorem enc_w {w : World} {dp un : Nat} {fr : Option (List Env)} {gd : Option (List Code)} {h₀ : Heap} {L : Addr} {m : PySem.Str → Option Value} {s : Shared} {Q E : Value → Shared → Prop} {news : List (Addr × Obj)} {x : PySem.Str} {bs : Array UInt8} {t u : Tok}
  (he : (x = Str.ofString "cmap" ∧ bs = #[99, 109, 97, 112]) ∨ (x = Str.ofString "post" ∧ bs = #[112, 111, 115, 116]))
  (F : Fr h₀ L s.heap m) (X : (Mine.hd.heap_39 w.params).In h₀) (N : News h₀ L s.heap news) (hd : dp ≤ 500) (hu : un ≤ 2000)
  (hret : ∀ h' tk' t', Fr h₀ L h' m → News h₀ L h' news → Q (.bytes bs t') { s with heap := h', toks := tk' }) :
  wpAny (model PySem.Challenge.rw_pb0178_01.row.prog w) { handled := none, depth := dp, frames := fr, guards := gd, units := un } (call (.builtin "str.encode") [.str x t, .str (Str.ofString "ascii") u]) Q E s := by
  refine wp_lift (dp := 500) (un := 2000) ?_ hd hu
  obtain ⟨h, g, d, tk, os⟩ := s
  have KX : (Mine.hd.heap_39 w.params).In h := fun a o e => F.keep a o (X a o e)
  have fin : XEnd h g d os Q (fun v news => ∃ t', v = .bytes bs t') := fun v h' t nn D p => by
    obtain ⟨t', rfl⟩ := p
    exact hret h' t t' (Fr.keeps F (mem_keep D)) (N.keepsAll (mem_keep D))
  rcases he with ⟨rfl, rfl⟩ | ⟨rfl, rfl⟩
  · exact xenc1 KX fin
  · exact xenc2 KX fin
set_option maxRecDepth 100000 in
set_option maxHeartbeats 8000000 in
theorem xzero4 {w : World} {fr : Option (List Env)} {gd : Option (List Code)} {h : Heap} {g : Array GenState} {d : Drawn} {tk : Nat} {os : OsState} {Q E : Value → Shared → Prop} {t : Tok}
  (KX : (Mine.hd.heap_39 w.params).In h)
  (hx : XEnd h g d os Q (fun v news => ∃ t', v = .bytes (Array.replicate 4 0) t')) :
  wpAny (model PySem.Challenge.rw_pb0178_01.row.prog w) { handled := none, depth := 500, frames := fr, guards := gd, units := 2000 } (call (.type "bytes") [.int 4 t]) Q E ⟨h, g, d, tk, os⟩ := by
  x_run
theorem zero4_w {w : World} {dp un : Nat} {fr : Option (List Env)} {gd : Option (List Code)} {h₀ : Heap} {L : Addr} {m : PySem.Str → Option Value} {s : Shared} {Q E : Value → Shared → Prop} {news : List (Addr × Obj)} {t : Tok}
  (F : Fr h₀ L s.heap m) (X : (Mine.hd.heap_39 w.params).In h₀) (N : News h₀ L s.heap news) (hd : dp ≤ 500) (hu : un ≤ 2000)
  (hret : ∀ b z h' tk' t', z = List.replicate 4 0 → z.length = 4 → KBw.bInts b = z → Fr h₀ L h' m → News h₀ L h' news → Q (.bytes b t') { s with heap := h', toks := tk' }) :
  wpAny (model PySem.Challenge.rw_pb0178_01.row.prog w) { handled := none, depth := dp, frames := fr, guards := gd, units := un } (call (.type "bytes") [.int 4 t]) Q E s := by
  refine wp_lift (dp := 500) (un := 2000) ?_ hd hu
  obtain ⟨h, g, d, tk, os⟩ := s
  refine xzero4 (fun a o e => F.keep a o (X a o e)) fun v h' t nn D p => ?_
  obtain ⟨t', rfl⟩ := p
  exact hret _ _ h' t t' rfl (by rw [List.length_replicate]) (by unfold KBw.bInts; rw [Array.toList_replicate, List.map_replicate]; rfl) (Fr.keeps F (mem_keep D)) (N.keepsAll (mem_keep D))
set_option maxRecDepth 100000 in
set_option maxHeartbeats 8000000 in
theorem xzero260 {w : World} {fr : Option (List Env)} {gd : Option (List Code)} {h : Heap} {g : Array GenState} {d : Drawn} {tk : Nat} {os : OsState} {Q E : Value → Shared → Prop} {t : Tok}
  (KX : (Mine.hd.heap_39 w.params).In h)
  (hx : XEnd h g d os Q (fun v news => ∃ t', v = .bytes (Array.replicate 260 0) t')) :
  wpAny (model PySem.Challenge.rw_pb0178_01.row.prog w) { handled := none, depth := 500, frames := fr, guards := gd, units := 2000 } (call (.type "bytes") [.int 260 t]) Q E ⟨h, g, d, tk, os⟩ := by
  x_run
theorem zero260_w {w : World} {dp un : Nat} {fr : Option (List Env)} {gd : Option (List Code)} {h₀ : Heap} {L : Addr} {m : PySem.Str → Option Value} {s : Shared} {Q E : Value → Shared → Prop} {news : List (Addr × Obj)} {t : Tok}
  (F : Fr h₀ L s.heap m) (X : (Mine.hd.heap_39 w.params).In h₀) (N : News h₀ L s.heap news) (hd : dp ≤ 500) (hu : un ≤ 2000)
  (hret : ∀ b z h' tk' t', z = List.replicate 260 0 → z.length = 260 → KBw.bInts b = z → Fr h₀ L h' m → News h₀ L h' news → Q (.bytes b t') { s with heap := h', toks := tk' }) :
  wpAny (model PySem.Challenge.rw_pb0178_01.row.prog w) { handled := none, depth := dp, frames := fr, guards := gd, units := un } (call (.type "bytes") [.int 260 t]) Q E s := by
  refine wp_lift (dp := 500) (un := 2000) ?_ hd hu
  obtain ⟨h, g, d, tk, os⟩ := s
  refine xzero260 (fun a o e => F.keep a o (X a o e)) fun v h' t nn D p => ?_
  obtain ⟨t', rfl⟩ := p
  exact hret _ _ h' t t' rfl (by rw [List.length_replicate]) (by unfold KBw.bInts; rw [Array.toList_replicate, List.map_replicate]; rfl) (Fr.keeps F (mem_keep D)) (N.keepsAll (mem_keep D))
end Mine
end
section
open PySem PySem.W PySem.W.X PyProof.Rows PySem.Calls
namespace Mine
theorem look_buf : typeLookup (.type "bytes") "__buffer__" = pure (some (.builtin "bytes.__buffer__")) := by rw [typeLookup_type, builtinLookup_eq_fast]; kernel_rfl
theorem look_rel : typeLookup (.type "bytes") "__release_buffer__" = pure none := by rw [typeLookup_type, builtinLookup_eq_fast]; kernel_rfl
theorem spec_buf (b : Array UInt8) (t : Tok) : specialOf (.bytes b t) "__buffer__" = pure (some (.builtin "bytes.__buffer__")) := by
  show (typeLookup (.type "bytes") "__buffer__") = _
  exact look_buf
theorem own_buf (b : Array UInt8) (t : Tok) : Builtin.Bytes.slotIsOwn (.bytes b t) "__buffer__" = pure true := by
  unfold Builtin.Bytes.slotIsOwn
  show (specialOf (.bytes b t) "__buffer__" >>= _) = _
  rw [spec_buf]
  kernel_rfl
theorem own_rel (b : Array UInt8) (t : Tok) : Builtin.Bytes.ownRelease (.bytes b t) = pure false := by
  unfold Builtin.Bytes.ownRelease Builtin.Bytes.slotIsOwn
  show (((typeLookup (.type "bytes") "__release_buffer__") >>= _) >>= _) = _
  rw [look_rel]
  rfl
section
variable {M : Model} {A : Around} {E : Value → Shared → Prop} {s : Shared}
theorem take_buf {b : Array UInt8} {t : Tok} {Q : Option (Array UInt8 × Option Value) → Shared → Prop} (h : Q (some (b, none)) s) :
    wpAny M A (Builtin.Bytes.takeBufferQuiet? "bytes.join" (.bytes b t) 0) Q E s := by
  unfold Builtin.Bytes.takeBufferQuiet?
  refine wpAny_bind (wpAny_attempt ?_)
  unfold Builtin.Bytes.takeBuffer?
  refine wpAny_bind (wpAny_of_eq (spec_buf b t) ?_)
  refine wpAny_bind (wpAny_of_eq (own_buf b t) ?_)
  refine wpAny_bind (wpAny_of_eq (spec_buf b t) ?_)
  unfold Builtin.Bytes.buffer?
  refine wpAny_bind ?_
  refine wpAny_bind (wpAny_of_eq (spec_buf b t) ?_)
  refine wpAny_bind (wpAny_of_eq (own_buf b t) ?_)
  refine wpAny_bind (wpAny_of_eq (spec_buf b t) ?_)
  refine wpAny_bind (wpAny_of_eq (own_rel b t) ?_)
  exact wpAny_bind (wpAny_pure (wpAny_pure (wpAny_pure (wpAny_pure h))))
theorem take_any {v : Value} {b : Array UInt8} {t : Tok} {Q : Option (Array UInt8 × Option Value) → Shared → Prop} (e : v = .bytes b t) (h : Q (some (b, none)) s) :
    wpAny M A (Builtin.Bytes.takeBufferQuiet? "bytes.join" v 0) Q E s := e ▸ take_buf h
theorem let_go {r : Value} {Q : Unit → Shared → Prop} (h : Q () s) (ps : List (Array UInt8 × Tok)) : wpAny M A (Builtin.Bytes.joinLetGo (ps.map fun p => (Value.bytes p.1 p.2, none)) [r]) Q E s := by
  induction ps with
  | nil => exact wpAny_pure h
  | cons p ps ih =>
    rw [List.map_cons]
    unfold Builtin.Bytes.joinLetGo
    exact wpAny_bind (wpAny_letGo ih)
end
theorem no_heap (qs : List (Array UInt8 × Tok)) : ((qs.map fun p => (Value.bytes p.1 p.2, (none : Option Value))).any fun x => x.1.onHeap) = false := by
  induction qs with
  | nil => rfl
  | cons q qs ih => rw [List.map_cons, List.any_cons, ih]; rfl
theorem joined_is (l : List (Array UInt8)) : (Builtin.Bytes.joined #[] l).toList = (l.map Array.toList).flatten := by
  have : ∀ (l : List (Array UInt8)) (k : Nat) (acc : Array UInt8), ((l.zipIdx k).foldl (fun out (x : Array UInt8 × Nat) => (if x.2 > 0 then out ++ #[] else out) ++ x.1) acc).toList = acc.toList ++ (l.map Array.toList).flatten := by
    intro l
    induction l with
    | nil => intro k acc; simp
    | cons x l ih => intro k acc; rw [List.zipIdx_cons, List.foldl_cons, ih]; simp
  exact (this l 0 #[]).trans (by simp)
theorem sum_is (l : List (Array UInt8)) : ∀ acc : Nat, l.foldl (fun c p => c + p.size) acc = acc + (l.map Array.toList).flatten.length := by
  induction l with
  | nil => intro acc; simp
  | cons x l ih => intro acc; rw [List.foldl_cons, ih]; simp; lia
theorem entry_join : entryFor table "bytes.join" = some Builtin.«bytes.join» := entryFor_of_fast (by kernel_rfl)
theorem args_join (a b : Value) : argsOk "bytes.join" ⟨[a, b], []⟩ := by unfold argsOk; kernel_rfl
theorem slot_bytes_join : PySem.Slot "bytes" "join" "bytes.join" :=
  .of (owner := "bytes") (n := "join") (by rw [typeLookup_type, builtinLookup_eq_fast]; kernel_rfl) (by decide +kernel) (by decide +kernel) (by decide +kernel)
    (by first | exact .inl (by decide +kernel) | exact .inr (by decide +kernel)) (by rw [isSubtype_type]; kernel_rfl)
section
variable {M : Model} {A : Around} {E : Value → Shared → Prop} {s : Shared}
theorem wp_pos {α : Type} {c : Prop} [Decidable c] {a b : Sem α} {Q : α → Shared → Prop} (h : c) (k : wpAny M A a Q E s) : wpAny M A (if c then a else b) Q E s := by rw [if_pos h]; exact k
theorem wp_neg {α : Type} {c : Prop} [Decidable c] {a b : Sem α} {Q : α → Shared → Prop} (h : ¬c) (k : wpAny M A b Q E s) : wpAny M A (if c then a else b) Q E s := by rw [if_neg h]; exact k
theorem wp_items {items : Array Value} {f : Value → Sem PySem.Fin} {g : Array Value → Sem PySem.Fin} {Q : PySem.Fin → Shared → Prop}
    (k : (∃ x, items = #[x] ∧ wpAny M A (f x) Q E s) ∨ (¬items.size = 1 ∧ wpAny M A (g items) Q E s)) :
    wpAny M A (Builtin.Bytes.joinM.match_1 (fun _ => Sem PySem.Fin) items f g) Q E s := by
  rcases k with ⟨x, rfl, k⟩ | ⟨h, k⟩
  · exact k
  · unfold PySem.Builtin.Bytes.joinM.match_1
    rw [dif_neg h]
    exact k
theorem wp_range {β : Type} {n : Nat} {f : Nat → β → Sem (ForInStep β)} (acc : Nat → β) {Q : β → Shared → Prop}
    (turn : ∀ i, i < n → wpAny M A (f i (acc i)) (fun r s' => s' = s ∧ r = .yield (acc (i + 1))) E s) (fin : Q (acc n) s) : wpAny M A (forIn [:n] (acc 0) f) Q E s := by
  rw [Std.Legacy.Range.forIn_eq_forIn_range']
  simp only [Std.Legacy.Range.size, Nat.sub_zero, Nat.add_sub_cancel, Nat.div_one]
  refine wpAny_forIn_list _ (fun rest b s' => s' = s ∧ ∃ i, rest = List.range' i (n - i) ∧ i ≤ n ∧ b = acc i) _ ?_ ?_ _ _ ⟨rfl, 0, by simp, Nat.zero_le _, rfl⟩
  · rintro x rest b s' ⟨rfl, i, hr, hi, rfl⟩
    have hlt : i < n := by
      rcases Nat.lt_or_ge i n with h | h
      · exact h
      · rw [Nat.sub_eq_zero_of_le h] at hr; simp at hr
    have e : n - i = (n - (i + 1)) + 1 := by lia
    rw [e, List.range'_succ] at hr
    injection hr with h1 h2
    subst h1
    refine wpAny_mono (turn x hlt) (fun r s' h => ?_) fun _ _ h => h
    obtain ⟨rfl, rfl⟩ := h
    exact ⟨rfl, x + 1, h2, hlt, rfl⟩
  · rintro b s' ⟨rfl, i, hr, hi, rfl⟩
    rcases Nat.lt_or_ge i n with h | h
    · have e : n - i = (n - (i + 1)) + 1 := by lia
      rw [e, List.range'_succ] at hr; exact nomatch hr
    · exact Nat.le_antisymm hi h ▸ fin
end
section
variable {prog : Program} {w : World} {A : Around} {E : Value → Shared → Prop} {s : Shared}
theorem join_core {l : Addr} {t : Tok} {n k : Nat} {items : Array Value} {parts : Nat → Array (Array UInt8)} {taken : Nat → List (Value × Option Value)} {Q : Value → Shared → Prop} (hl : s.heap.get? l = some (W.listOf items n))
    (p0 : parts 0 = #[]) (t0 : taken 0 = []) (hk : items.size = k) (h1 : (∃ b t, items = #[.bytes b t] ∧ Q (.bytes b t) s) ∨ ¬items.size = 1)
    (hg : ∀ i, i < k → (taken i).any (fun x => x.1.onHeap) = false ∧ ∃ b t, items.getD i .none = .bytes b t ∧ parts (i + 1) = (parts i).push b ∧ taken (i + 1) = taken i ++ [(.bytes b t, none)])
    (hs : Builtin.Bytes.tooLong ((parts k).foldl (· + ·.size) ((#[] : Array UInt8).size * ((parts k).size - 1))) = false) (hz : (Builtin.Bytes.joined #[] (parts k).toList).size ≤ sizeLine)
    (hgo : ∀ {r : Value} {Q : Unit → Shared → Prop} {s : Shared}, Q () s → wpAny (model prog w) A.in1 (Builtin.Bytes.joinLetGo (taken k) [r]) Q E s)
    (hq : ∀ tk t', Q (.bytes (Builtin.Bytes.joined #[] (parts k).toList) t') { s with toks := tk }) :
    wpAny (model prog w) A (call (.builtin "bytes.join") [.bytes #[] t, .ref l]) Q E s := by
  refine wpAny_call_entry slot_bytes_join rfl entry_join ?_ (args_join _ _)
  unfold Builtin.«bytes.join» Builtin.Bytes.joinM
  refine wpAny_bind (m := selfAndOne _ _) (wpAny_of_eq (a := (Value.bytes #[] t, Value.ref l)) rfl ?_)
  refine wp_pos (by decide) (wpAny_bind ?_)
  refine wpAny_bind (wpAny_typeOf (T := "list") ⟨_, hl, rfl⟩ (wp_pos (by decide) (wpAny_pure ?_)))
  refine wpAny_bind (wpAny_seqItems hl rfl ?_)
  refine wp_pos (by decide) (wp_items (h1.elim (fun ⟨b, t, e, q⟩ => .inl ⟨_, e, wpAny_bind (wpAny_typeOf (T := "bytes") rfl (wp_pos (by decide) (wpAny_bind (wpAny_rule (wpAny_pure ⟨_, rfl, q⟩)))))⟩) fun h1 => .inr ⟨h1, wpAny_bind ?_⟩))
  subst hk
  have a0 : ((parts 0, taken 0) : Array (Array UInt8) × List (Value × Option Value)) = (#[], []) := by rw [p0, t0]
  rw [← a0]
  refine wp_range (fun i => (parts i, taken i)) (fun i hi => ?_) ?_
  · obtain ⟨hh, b, tb, e1, e2, e3⟩ := hg i hi
    have e4 : ((parts (i + 1), taken (i + 1)) : Array (Array UInt8) × List (Value × Option Value)) = ((parts i).push b, taken i ++ [(items.getD i .none, none)]) := by rw [e1, e2, e3]
    refine wpAny_bind (wpAny_seqItems hl rfl ?_)
    refine wp_neg (by show ¬ (false || _) = true; rw [hh]; decide) (wpAny_bind (wpAny_holding ?_))
    refine take_any e1 ?_
    refine wpAny_bind (wpAny_seqItems hl rfl ?_)
    exact wp_neg (by simp) (wpAny_pure ⟨rfl, congrArg _ e4.symm⟩)
  · refine wpAny_bind (wpAny_pure (wp_neg (fun h => Bool.false_ne_true (hs.symm.trans h)) ?_))
    exact wpAny_bind (wpAny_mkBytes (wpAny_bind (wpAny_holding (wpAny_point (wpAny_bind (hgo (wpAny_pure ⟨_, rfl, hq _ _⟩)))))) hz)
theorem join_any {l : Addr} {t : Tok} {n : Nat} {ps : List (Array UInt8 × Tok)} {Q : Value → Shared → Prop} (hl : s.heap.get? l = some (W.listOf (ps.map fun p => Value.bytes p.1 p.2).toArray n))
    (hs : ((ps.map (·.1)).map Array.toList).flatten.length ≤ 1000) (hq : ∀ tk t' r, r.toList = ((ps.map (·.1)).map Array.toList).flatten → Q (.bytes r t') { s with toks := tk }) :
    wpAny (model prog w) A (call (.builtin "bytes.join") [.bytes #[] t, .ref l]) Q E s := by
  have hj := joined_is (ps.map (·.1))
  have ht : ps.take ps.length = ps := List.take_length
  refine join_core (k := ps.length) (parts := fun i => ((ps.take i).map (·.1)).toArray) (taken := fun i => (ps.take i).map fun p => (Value.bytes p.1 p.2, none)) hl rfl rfl (by simp) ?_ (fun i hi => ?_) ?_ ?_ ?_ ?_
  · rcases ps with _ | ⟨p, _ | ⟨q, r⟩⟩
    · exact .inr (by simp)
    · exact .inl ⟨p.1, p.2, rfl, hq s.toks _ _ (by simp)⟩
    · exact .inr (by simp)
  · refine ⟨no_heap _, ps[i].1, ps[i].2, by simp [hi], ?_, ?_⟩
    · rw [List.take_succ_eq_append_getElem hi, List.map_append, List.push_toArray]; rfl
    · rw [List.take_succ_eq_append_getElem hi, List.map_append]; rfl
  · show decide (Array.foldl _ (0 * _) ((ps.take ps.length).map (·.1)).toArray > sizeLine) = false
    rw [ht, Nat.zero_mul, List.foldl_toArray, sum_is, sizeLine_eq, decide_eq_false_iff_not]
    lia
  · show (Builtin.Bytes.joined #[] ((ps.take ps.length).map (·.1))).size ≤ sizeLine
    rw [ht, ← Array.length_toList, hj, sizeLine_eq]
    lia
  · show ∀ {r : Value} {Q : Unit → Shared → Prop} {s : Shared}, Q () s → wpAny (model prog w) A.in1 (Builtin.Bytes.joinLetGo ((ps.take ps.length).map fun p => (Value.bytes p.1 p.2, none)) [r]) Q E s
    rw [ht]
    exact fun h => let_go h ps
  · show ∀ tk t', Q (.bytes (Builtin.Bytes.joined #[] ((ps.take ps.length).map (·.1))) t') { s with toks := tk }
    rw [ht]
    exact fun tk t' => hq tk t' _ hj
end
theorem type_bytes_join : typeOf (.builtin "bytes.join") = pure (.type "method_descriptor") := by show builtinType _ = _; rw [builtinType_eq_fast]; kernel_rfl
theorem join_method {M : Model} {A : Around} {E : Value → Shared → Prop} {s : Shared} {x : Array UInt8} {t : Tok} {pl : Sem Bool} {Q : Value × List Value → Shared → Prop} (h : Q (.builtin "bytes.join", [.bytes x t]) s) :
    wpAny M A (getMethod (.bytes x t) (PySem.Str.ofString "join") pl) Q E s := by
  with_reducible exact PySem.W.KBd.method_of (.bytes x t) (typeIs_bytes _ _ _) slot_bytes_join type_bytes_join PySem.W.KBd.noRef h
/-- a list of pieces of bytes, four to a piece -/
inductive Fours : List Value → List (List Int) → Prop
  | nil : Fours [] []
  | snoc {ys : List Value} {bs : List (List Int)} {b : Array UInt8} {x : List Int} {t : Tok} (h : Fours ys bs) (e : KBw.bInts b = x) (l : x.length = 4) : Fours (ys ++ [.bytes b t]) (bs ++ [x])
theorem Fours.len {ys : List Value} {bs : List (List Int)} (h : Fours ys bs) : ys.length = bs.length := by
  induction h with
  | nil => rfl
  | snoc _ _ _ ih => simp [ih]
theorem Fours.pieces {ys : List Value} {bs : List (List Int)} (h : Fours ys bs) : ∃ ps : List (Array UInt8 × Tok), ys = (ps.map fun p => Value.bytes p.1 p.2) ∧ bs = ps.map (fun p => KBw.bInts p.1) ∧ ((ps.map (·.1)).map Array.toList).flatten.length = 4 * ps.length := by
  induction h with
  | nil => exact ⟨[], rfl, rfl, rfl⟩
  | @snoc ys bs b x t h e l ih =>
    obtain ⟨ps, rfl, rfl, hl⟩ := ih
    subst e
    refine ⟨ps ++ [(b, t)], by rw [List.map_append]; rfl, by rw [List.map_append]; rfl, ?_⟩
    have hb : b.toList.length = 4 := by rw [← l]; simp [KBw.bInts]
    rw [List.map_append, List.map_append, List.flatten_append, List.length_append, hl, List.length_append]
    show 4 * ps.length + (b.toList ++ []).length = 4 * (ps.length + 1)
    rw [List.append_nil, hb, Nat.mul_succ]
theorem join_w {w : World} {dp un : Nat} {fr : Option (List Env)} {gd : Option (List Code)} {h₀ : Heap} {L : Addr} {m : PySem.Str → Option Value} {s : Shared} {Q E : Value → Shared → Prop} {news : List (Addr × Obj)} {l : Addr} {n : Nat} {t : Tok} {ys : List Value} {bs : List (List Int)}
  (hy : Fours ys bs) (h1 : 1 ≤ ys.length) (h4 : ys.length ≤ 4)
  (F : Fr h₀ L s.heap m) (X : (Mine.hd.heap_39 w.params).In h₀) (N : News h₀ L s.heap news) (ml : (l, W.listOf ys.toArray n) ∈ news) (hd : dp ≤ 500) (hu : un ≤ 2000)
  (hret : ∀ b h' tk' t', KBw.bInts b = bs.flatten → Fr h₀ L h' m → News h₀ L h' news → Q (.bytes b t') { s with heap := h', toks := tk' }) :
  wpAny (model PySem.Challenge.rw_pb0178_01.row.prog w) { handled := none, depth := dp, frames := fr, guards := gd, units := un } (call (.builtin "bytes.join") [.bytes #[] t, .ref l]) Q E s := by
  obtain ⟨ps, rfl, rfl, hl⟩ := hy.pieces
  rw [List.length_map] at h4
  refine join_any (N.get ml) (by rw [hl]; lia) fun tk t' r hr => hret r _ tk t' ?_ F N
  unfold KBw.bInts
  rw [hr, List.map_flatten, List.map_map, List.map_map]
  rfl
end Mine
end
section
open PySem PySem.W PyProof.Rows PySem.Calls
namespace Mine
local macro_rules | `(tactic| k_room) => `(tactic| ktr_room)
local macro_rules | `(tactic| ktr_room) => `(tactic| first | exact room1 | exact room2 | exact room0 | exact room3 | exact room4 | exact room5 | exact room6 | lia)
local macro_rules | `(tactic| ktr_units) => `(tactic| ktr_room)
local macro_rules | `(tactic| cb_room) => `(tactic| first | with_reducible assumption | lia)
local macro_rules | `(tactic| kba_size) => `(tactic| k_dflt (first | exact size2 | exact size1))
local macro_rules | `(tactic| k_units) => `(tactic| first | exact Nat.le_of_ble_eq_true rfl | ktr_units)
local macro_rules | `(tactic| walk_at "InvEndN") => `(tactic| k_dflt kst_close)
local macro_rules | `(tactic| k_mem) => `(tactic| first | with_reducible assumption | exact mem_of (by with_reducible assumption))
local macro_rules | `(tactic| k_in) => `(tactic| first | k_in_fast | with_reducible assumption | exact Frag.In.keeps (by k_asm) (Fr.keep (by k_asm)))
local macro_rules | `(tactic| ktn_lt) => `(tactic| first | assumption | exact And.right (by first | assumption | exact And.right (by first | assumption | exact And.right (by first | assumption | exact And.right (by first | assumption | exact And.right (by first | assumption | exact And.right (by first | assumption | exact And.right (by first | assumption | exact And.right (by first | assumption | exact And.right (by first | assumption | exact And.right (by first | assumption | exact And.right (by first | assumption | exact And.right (by first | assumption)))))))))))) | exact allLt_of (by assumption))
local macro_rules | `(tactic| ktr_rel) => `(tactic| first
  | assumption
  | exact own_nil
  | exact own_lt (allLt_of (by assumption)) (by simp only [AllGe, and_true]; lia)
  | exact own_lt (by ktn_lt) (by simp only [AllGe, and_true]; lia)
  | (refine own_cons (by simp only [AllNe, and_true]; first | exact ne9 | exact ne8 | exact off9 | lia) ?_; ktr_rel)
  | exact lt_nil
  | (refine lt_cons (by dsimp only; lia) ?_; ktr_rel)
  | ktn_lt
  | exact lt_le (by ktn_lt) (by lia))
local macro_rules | `(tactic| k_all) => `(tactic| first
  | exact off_ltA (by ktn_lt)
  | exact ne_off1 (by ktn_lt)
  | exact ne_lt (by ktn_lt) (by lia))
section
theorem part3 : True := by
  w_top off
  trivial
section
theorem inst_newE {h₀ h : Heap} {L x ta : Addr} {news : List (Addr × Obj)} (N : News h₀ L h news) (hm : (x, newE ta) ∈ news) : InstAt h x (newE ta) 73 none := ⟨(N _ hm).1, rfl, rfl, trivial⟩
theorem fresh_in {h₀ h h' : Heap} {L a : Addr} {m : Str → Option Value} {o : Obj} (F : Fr h₀ L h m) (hn : h.get? a = none) (ha : h'.get? a = some o) : h'.get? a = some o ∧ a ≠ L ∧ h₀.get? a = none := by
  refine ⟨ha, fun e => ?_, ?_⟩
  · obtain ⟨oL, _, _, hL, _⟩ := F.ns
    rw [e, hL] at hn; cases hn
  · cases q : h₀.get? a with
    | none => rfl
    | some o' => rw [F.keep _ _ q] at hn; cases hn
end
theorem keeps_mw {M : Model} {mw x : Addr} (h : Heap) (X : h.get? mw = some (mwObj x)) : ∃ k, (k = Keeper.frame ∨ k = Keeper.machine ∨ k = Keeper.boundFrame) ∧ Looks M h (keeperOf (.ref mw)) k :=
  ⟨.machine, .inr (.inl rfl), (Looks.ld (part := none) X).andThen .now⟩
theorem callWith_mw {M : Model} {A : Around} {pos : Pos} {mw x : Addr} {first : List Value} {env : Env} {y : PySem.Expr} {rest : List PySem.Expr} {s : Shared} {Q E : Value → Shared → Prop}
    (h : wpAny M A (spliced (backTo pos (starEach (y :: rest) env))) (fun vs s₁ => s₁.heap.get? mw = some (mwObj x) ∧ wpAny M A (call (.ref mw) (first ++ vs)) Q E s₁) E s)
    (he : starEach (y :: rest) env = (false, eval y env) :: starEach rest env := by rfl) (hplain : (backTo pos (starEach rest env)).any (·.1) = false := by rfl) :
    wpAny M A (callWith pos (.ref mw) first (backTo pos (starEach (y :: rest) env)) []) Q E s := by
  rw [he] at h ⊢
  exact callWith_of (by show ((false || (backTo pos (starEach rest env)).any (·.1)) || false) = false; rw [hplain]; rfl) (keeps_mw (x := x)) (evalArgs_plain h)
theorem fr_bu {h₀ h h' : Heap} {L x : Addr} {m : Str → Option Value} (F : Fr h₀ L h m) (h0 : h₀.get? x = none) (hL : x ≠ L) (k : ∀ b o, b ≠ x → h.get? b = some o → h'.get? b = some o) : Fr h₀ L h' m :=
  ⟨F.ns.at fun o e => k L o hL.symm e, fun b o e => k b o (fun q => by rw [q, h0] at e; cases e) (F.keep b o e), F.above⟩
theorem News.but {h₀ h h' : Heap} {L e : Addr} {o o' : Obj} {news : List (Addr × Obj)} (N : News h₀ L h ((e, o) :: news)) (ne : ∀ p ∈ news, p.1 ≠ e) (k : ∀ b o, b ≠ e → h.get? b = some o → h'.get? b = some o) (he : h'.get? e = some o') :
    News h₀ L h' ((e, o') :: news) := fun p hp => by
  rcases List.mem_cons.mp hp with rfl | hp
  · exact ⟨he, (N _ (.head _)).2⟩
  · exact ⟨k _ _ (ne p hp) (N _ (.tail _ hp)).1, (N _ (.tail _ hp)).2⟩
theorem look30 (P : Params) : List.lookup 30 (Mine.hd.heap_39 P) = some { cls := .type "tuple", data := .seq #[.int (-1) 209] } := by kernel_rfl
local macro_rules | `(tactic| k_inst) => `(tactic| exact inst_newE (by assumption) (by first | exact List.mem_cons_self | k_mem))
section
variable {w : World} {mean : ExcName → Option Value} {mg mb : Str → Option Value} {dp un : Nat} {gd : Option (List Code)} {cn : Str} {cs : Scope} {a : Addr} {ccd : Value} {cl : List (Str × Addr)} {outer : List Env} {A₀ : Around} {base h₀ : Heap} {L : Addr} {m : Str → Option Value} {s : Shared} {Q E : Value → Shared → Prop}
set_option maxRecDepth 100000 in
set_option maxHeartbeats 8000000 in
theorem ff_c {what : Str} {i : Int} {t1 t2 : Tok} {news : List (Addr × Obj)}
  (B : Below A₀ base outer h₀) (F : Fr h₀ L s.heap m) (X : (Mine.hd.heap_39 w.params).In h₀) (N : News h₀ L s.heap news) (T : Top Mine.hd.view_39 (looseW Mine.hd.view_39 [Str.ofString "ShapeError", Str.ofString "VERSIONS"]) mean mg mb h₀) (hk : cs.kind = .function)
  (hd : dp + 10 ≤ 450) (hu : un + 80 ≤ 1800)
  (hret : ∀ e h' tk' o t, Fr h₀ L h' m → News h₀ L h' ((e, o) :: news) → (∀ p ∈ news, p.1 ≠ e) → o.cls = .ref 73 → o.data = .fields #[.ref t, .none, .none, .none, .bool false, .none] → Q (.ref e) { s with heap := h', toks := tk' }) :
  wpAny (model prg w) (ktrTop dp un gd cn cs L a ccd cl outer) (call (.ref 73) [.str what t1, .int i t2]) Q E s := by
  obtain ⟨sh, sg, sd, st, so⟩ := s
  have Xs : (Mine.hd.heap_39 w.params).In sh := X.keeps F.keep
  refine ff_call Xs fun h' e hm => ?_
  obtain ⟨ta, he, hta, hta'⟩ := hm.there
  have F1 : Fr h₀ L h' m := Fr.keeps F hm.keeps
  have N1 : News h₀ L h' ((e, newE ta) :: news) := fun p hp => by
    rcases List.mem_cons.mp hp with rfl | hp
    · exact fresh_in F hm.new he
    · exact N.keepsAll hm.keeps p hp
  have ne : ∀ p ∈ news, p.1 ≠ e := fun p hp q => by
    have := (N p hp).1
    rw [q, hm.new] at this
    cases this
  clear N
  refine wpAny_call ?_
  have h30 : h'.get? 30 = some { cls := .type "tuple", data := .seq #[.int (-1) 209] } := (X.keeps F1.keep) _ _ (look30 _)
  refine' ks_code_super (binds := [(Str.ofString "self", .ref e), (Str.ofString "what", .str what t1), (Str.ofString "at", .int i t2)]) ?k1 ?k2 ?k3 ?k4 ?k5 ?kA ?kF ?kK ?k6 ?k7 ?k8 ?k9 ?kB ?_ ?c1 ?c2 ?c3 ?c4
  case kA => exact rfl
  case kF => exact rfl
  case kK => assumption
  case k1 => k_asm
  case k2 => k_asm
  case k3 => k_asm
  case k4 => k_asm
  case k5 => k_asm
  case k6 => k_is
  case k7 => k_is
  case k8 =>
    show dp + 1 < recursionLimit
    rw [show recursionLimit = 1000 from rfl]
    lia
  case k9 => exact BindsTo.of_defaults rfl h30 rfl rfl rfl
  case kB => exact locs rfl
  case c1 => decide
  case c2 => exact rfl
  case c3 => exact rfl
  case c4 => exact rfl
  intro g' L' h' FG' F' N' B' X' T' l1
  dsimp only
  (repeat' (first | ((with_reducible show _ ∧ _); k_dflt (refine ⟨(News.get (by assumption) (.head _)), ?_⟩; (try dsimp only [List.nil_append, List.cons_append]))) | (k_unfold; (try dsimp only)) | (k_end; wrow_close) | walk1 | (dsimp only; walk1) | (leave1; walk_say "STEP leave1"; try dsimp only) | fail "no step"))
  rename_i so' hso' Fso Nso lso
  have Xso := X'.keeps Fso.keep
  refine ff_method Xso (Nso _ (.head _)).1 (Nso _ (.tail _ (.head _))).1 rfl (by show dp + 1 + 1 < 500; lia) ?_ ?_
  · have hU : ((ktrTop dp un gd cn cs L a ccd cl outer).under (Code.builtin "type.__call__" ⟨[.ref 73, .str what t1, .int i t2], []⟩)).units ≤ un + 20 := by
      show un + _ ≤ un + 20
      exact Nat.add_le_add_left (Nat.le_of_ble_eq_true rfl) _
    rw [units_deeper]
    lia
  intro hm' mw tm km em nm
  have Fm := Fr.keeps Fso km
  have Nm : News g' L' hm' ((mw, mwObj e) :: (e, newE ta) :: news) := fun p hp => by
    rcases List.mem_cons.mp hp with rfl | hp
    · exact fresh_in Fso nm em
    · exact Nso.keepsAll km p (.tail _ hp)
  dsimp only
  refine callWith_mw (x := e) ?_
  (repeat' (first | ((with_reducible show _ ∧ _); k_dflt (refine ⟨(News.get (by assumption) (.head _)), ?_⟩; (try dsimp only [List.nil_append, List.cons_append]))) | (k_unfold; (try dsimp only)) | (k_end; wrow_close) | walk1 | (dsimp only; walk1) | (leave1; walk_say "STEP leave1"; try dsimp only) | fail "no step"))
  have xF := (N' _ (.head _)).2
  refine ff_init (X'.keeps Fm.keep) (Nm _ (.tail _ (.head _))).1 em ?_
  intro h1 tk1 e1 et1 k1
  have F1' := fr_bu Fm xF.2 xF.1 k1
  have N1' : News g' L' h1 ((e, newE hm'.objs.size) :: news) := News.but (fun p hp => Nm p (.tail _ hp)) ne k1 e1
  clear Nm N1 N'
  (repeat' (first | ((with_reducible show _ ∧ _); k_dflt (refine ⟨(News.get (by assumption) (.head _)), ?_⟩; (try dsimp only [List.nil_append, List.cons_append]))) | (k_unfold; (try dsimp only)) | (k_end; wrow_close) | walk1 | (dsimp only; walk1) | (leave1; walk_say "STEP leave1"; try dsimp only) | fail "no step"))
  refine ff_setAttr (mA := fun _ => none) (ns := []) (X'.keeps F1'.keep) (by k_is) ⟨_, e1, rfl, (fun c q => by cases q), .inl ⟨rfl, fun _ => rfl⟩⟩ ?_ Within.nil (by decide)
  intro h2 tk2 I2 S2
  obtain ⟨o2, eo2, c2, d2, s2, _⟩ := S2.2.1 _ e1
  have k2 : ∀ b o, b ≠ e → h1.get? b = some o → h2.get? b = some o := fun b o hb q => S2.1 b o hb (fun o₀ dx q1 q2 => by rw [e1] at q1; cases q1; cases q2) q
  have F2' := fr_bu F1' xF.2 xF.1 k2
  have N2' := News.but N1' ne k2 eo2
  (repeat' (first | ((with_reducible show _ ∧ _); k_dflt (refine ⟨(News.get (by assumption) (.head _)), ?_⟩; (try dsimp only [List.nil_append, List.cons_append]))) | (k_unfold; (try dsimp only)) | (k_end; wrow_close) | walk1 | (dsimp only; walk1) | (leave1; walk_say "STEP leave1"; try dsimp only) | fail "no step"))
  refine ff_setAttr (mA := fun y => if y = Str.ofString "what" then some (Value.str what t1) else none) (ns := [Str.ofString "what"]) (X'.keeps F2'.keep) (by k_is) I2 ?_ (Within.cons _ _ Within.nil) (by decide)
  intro h3 tk3 I3 S3
  obtain ⟨o3, eo3, c3, d3, s3, _⟩ := S3.2.1 _ eo2
  have k3 : ∀ b o, b ≠ e → h1.get? b = some o → h3.get? b = some o := fun b o hb q => S3.1 b o hb (fun o₀ dx q1 q2 => by
    rw [eo2] at q1
    cases q1
    rcases S2.2.2 _ dx eo2 q2 with hz | ⟨o₀, hz, hy⟩
    · intro hbd
      rw [hbd, hz] at q
      cases q
    · rw [e1] at hz
      cases hz
      cases hy) (k2 b o hb q)
  have F3' := fr_bu F1' xF.2 xF.1 k3
  have N3' := News.but N1' ne k3 eo3
  clear N1' N2' F2' F1' Fm Fso
  (repeat' (first | ((with_reducible show _ ∧ _); k_dflt (refine ⟨(News.get (by assumption) (.head _)), ?_⟩; (try dsimp only [List.nil_append, List.cons_append]))) | (k_unfold; (try dsimp only)) | (k_end; wrow_close) | walk1 | (dsimp only; walk1) | (leave1; walk_say "STEP leave1"; try dsimp only) | fail "no step"))
  exact hret e h3 tk3 o3 _ (by assumption) (by assumption) ne (c3.trans c2) (d3.trans d2)
end
end
section
noncomputable abbrev FldE (t : Addr) : Array Value := #[.ref t, .none, .none, .none, .bool false, .none]
section
variable {M : Model} {A : Around} {E : Value → Shared → Prop} {s' : Shared} {base g h : Heap} {outer : List Env} {env : Env} {L e t : Addr} {o : Obj} {m : Str → Option Value} {Q : Unit → Shared → Prop} {news : List (Addr × Obj)}
theorem rf_first (K : Below A base outer g) (F : Fr g L s'.heap m) (N : News g L s'.heap news) (hf : env.frame = some L) (hk : env.scope.kind = .function)
    (he : s'.heap.get? e = some o) (hc : o.cls = .ref 73) (hd : o.data = .fields (FldE t)) (hn : g.get? e = none) (hL : e ≠ L) (hne : ∀ p ∈ news, p.1 ≠ e)
    (hQ : ∀ h', RaisedN base outer e (.ref 73) news h' → g.UpToSlots h' → Q () { s' with heap := h' }) :
    wpAny M (A.deeper env) (leaving env (.ref e)) Q E s' := by
  have K' := pushX K F hf hk
  have hin : ∀ env' ∈ (env :: outer), ∀ b, env'.frame = some b → b ∈ e :: (env :: outer).filterMap (·.frame) := fun env' he b hb => .tail _ (List.mem_filterMap.mpr ⟨env', he, hb⟩)
  have st : base.StaysIn (hideAll s'.heap (e :: (env :: outer).filterMap (·.frame))) := fun b o q => hideAll_get _ (K'.stays b o q) fun hm => by
    rcases List.mem_cons.mp hm with z | hm
    · rw [z] at q
      rw [K.stays _ _ q] at hn
      cases hn
    · rw [(K'.frames.mem hm).1] at q
      cases q
  have hl : ∀ q ∈ news, (hideAll s'.heap (e :: (env :: outer).filterMap (·.frame))).get? q.1 = some q.2 ∧ base.get? q.1 = none := fun q hq => by
    refine ⟨hideAll_get _ (N q hq).1 fun hm => ?_, fresh_of_stays K.stays (N q hq).2.2⟩
    rcases List.mem_cons.mp hm with z | hm
    · exact hne q hq z
    · obtain ⟨env', he', hf'⟩ := List.mem_filterMap.mp hm
      rcases List.mem_cons.mp he' with rfl | he'
      · exact (N q hq).2.1 (Option.some.inj (hf'.symm.trans hf))
      · obtain ⟨o', ho', _⟩ := (K.frames.mem (List.mem_filterMap.mpr ⟨env', he', hf'⟩)).2
        rw [(N q hq).2.2] at ho'
        cases ho'
  refine wpAny_leaving_firstW (a0 := .ref t) (Around.frames_deeper K.stack) (funFrames_hide K'.frames hin) hf he (fun b o q => of_hideAll _ q) (hideAll_none _ (.head _)) hd rfl rfl fun h' hW => ?_
  obtain ⟨k1, ⟨_, _, k2⟩, k3, k4⟩ := hW
  rw [hc] at k3
  exact hQ h' ⟨_, _, st, hl, k1, hideAll_none _ (.head _), k2, k3⟩ ((Heap.UpToSlots.of_keeps F.keep).trans k4)
theorem rf_next (K : Below A base outer g) (F : Fr g L h m) (hf : env.frame = some L) (R : RaisedN base (env :: outer) e (.ref 73) news s'.heap) (hsm : h.UpToSlots s'.heap)
    (hQ : ∀ h', RaisedN base outer e (.ref 73) news h' → g.UpToSlots h' → Q () { s' with heap := h' }) :
    wpAny M (A.deeper env) (leaving env (.ref e)) Q E s' := by
  obtain ⟨B, a0, hB, hl, hfl⟩ := R
  exact wpAny_leaves_onW (Around.frames_deeper K.stack) hf hfl fun h' x1 x2 => hQ h' ⟨B, a0, hB, hl, x1⟩ ((Heap.UpToSlots.of_keeps F.keep).trans (hsm.trans x2))
theorem rf_raise {x : Sem Value} {Q : PySem.Flow → Shared → Prop} {s : Shared} (hh : A.handled = none)
    (h : wpAny M A x (fun v s₁ => ∃ e o t, v = .ref e ∧ s₁.heap.get? 73 = some clsF ∧ s₁.heap.get? e = some o ∧ o.cls = .ref 73 ∧ o.data = .fields (FldE t) ∧ E (.ref e) s₁) E s) :
    wpAny M A (raiseStmt env (some x) none) Q E s := by
  unfold raiseStmt
  refine wpAny_bind (wpAny_mono h (fun v s₁ h₁ => ?_) fun _ _ x => x)
  obtain ⟨e, o, t, rfl, hC, he, hc, hd, hE⟩ := h₁
  obtain ⟨hp, g, d, tk, os⟩ := s₁
  obtain ⟨oc, od, odt, osl⟩ := o
  cases hc
  cases hd
  repeat (first | with_reducible refine wpAny_loadPart_at he ?_ | with_reducible refine wpAny_loadPart_at hC ?_ | (with_reducible refine wpAny_isSubtype_exc hC ?_; rw [hasBas]) | wp_step)
  exact wpAny_raiseNew_none hh hE
noncomputable def RaisedP (E : Value → Shared → Prop) (v : Value) (s₁ : Shared) : Prop :=
  ∃ e o t, v = .ref e ∧ s₁.heap.get? 73 = some clsF ∧ s₁.heap.get? e = some o ∧ o.cls = .ref 73 ∧ o.data = .fields (FldE t) ∧ E (.ref e) s₁
theorem Raise_F {x : PySem.Expr} {pos : Pos} {Q : PySem.Flow → Shared → Prop} {s : Shared} (hh : A.handled = none) (h : wpAny M A (eval x env) (RaisedP E) E s) :
    wpAny M A (exec (.Raise (some x) none pos) env) Q E s := by
  show wpAny M A (do standAt pos; raiseStmt env (some (do let v ← eval x env; standAt pos; pure v)) none) Q E s
  refine wpAny_bind (wpAny_standAt ?_)
  exact rf_raise hh (wpAny_bind (wpAny_mono h (fun v s₁ h₁ => wpAny_bind (wpAny_standAt (wpAny_pure h₁))) fun _ _ x => x))
end
theorem RaisedN.sub {base : Heap} {l : List Env} {e : Addr} {cls : Value} {n n' : List (Addr × Obj)} {h : Heap} (R : RaisedN base l e cls n h) (k : ∀ p ∈ n', p ∈ n) : RaisedN base l e cls n' h :=
  let ⟨B, a0, x, y, z⟩ := R; ⟨B, a0, x, fun q hq => y q (k q hq), z⟩
theorem news_tail {h₀ h : Heap} {L : Addr} {p : Addr × Obj} {l : List (Addr × Obj)} (N : News h₀ L h (p :: l)) : News h₀ L h l := fun q hq => N q (.tail _ hq)
theorem g_none {h₀ h : Heap} {L a : Addr} {o : Obj} {l : List (Addr × Obj)} (N : News h₀ L h ((a, o) :: l)) : h₀.get? a = none := (N _ (.head _)).2.2
theorem g_ne {h₀ h : Heap} {L a : Addr} {o : Obj} {l : List (Addr × Obj)} (N : News h₀ L h ((a, o) :: l)) : a ≠ L := (N _ (.head _)).2.1
theorem in73F {h₀ h : Heap} {L : Addr} {m : Str → Option Value} {w : World} (X : (Mine.hd.heap_39 w.params).In h₀) (F : Fr h₀ L h m) : h.get? 73 = some clsF := in73 (X.keeps F.keep)
end
section
theorem part4 : True := by
  w_top off
  trivial
noncomputable def beL (l : List Int) : Int := l.foldl (fun t c => t * 256 + c) 0
theorem beL_snoc (l : List Int) (c : Int) : beL (l ++ [c]) = beL l * 256 + c := by simp [beL]
section
variable {prog : Program} {w : World} {A : Around} {E : Value → Shared → Prop} {s : Shared} {value slice : PySem.Expr} {b : Array UInt8} {t : Tok} {h₀ : Heap} {L : Addr} {m : PySem.Str → Option Value} {news : List (Addr × Obj)} {Q : Value → Shared → Prop} {ks : List Int} {i j : Int} {ti tj : Tok}
theorem clip_in {n : Nat} {i : Int} (h0 : 0 ≤ i) (h1 : i ≤ (n : Int)) : clipAt n i = i.toNat := by
  obtain ⟨k, rfl⟩ := Int.eq_ofNat_of_zero_le h0
  rw [clipAt_nat]
  simp
  lia
theorem sliceIJ (hF : Fr h₀ L s.heap m) (hN : News h₀ L s.heap news) (hk : KBw.bInts b = ks) (h0 : 0 ≤ i) (h1 : i ≤ j) (h2 : j ≤ (ks.length : Int)) (hz : ks.length ≤ 16777216)
    (h : ∀ b' h' t' k, Fr h₀ L h' m → News h₀ L h' news → KBw.bInts b' = (ks.drop i.toNat).take (j - i).toNat → Q (.bytes b' t') { s with heap := h', toks := k })
    (hs : subscripted slice false (.bytes b t) (.ref s.heap.objs.size) = operate [.ref s.heap.objs.size, .bytes b t] (getItem (.bytes b t) (.ref s.heap.objs.size)))
    (ht : ∀ r, letTemporaryGo value (.bytes b t) r = pure ()) :
    wpAny (model prog w) A (subscriptTail value slice (.bytes b t) (.ref s.heap.objs.size)) Q E { s with heap := s.heap.push { cls := .type "slice", data := .fields #[.int i ti, .int j tj, .none] } } :=
  KBc.slice_K hF hN hk (lo := some i) (hi := some j) (by constructor) (by constructor) hz (fun h' t' k F' N' e => h _ h' t' k F' N' (by
    rw [e]
    show List.take (clipAt ks.length j - clipAt ks.length i) (List.drop (clipAt ks.length i) ks) = _
    rw [clip_in h0 (Int.le_trans h1 h2), clip_in (Int.le_trans h0 h1) h2]
    congr 1
    lia)) hs ht
theorem sliceI (hF : Fr h₀ L s.heap m) (hN : News h₀ L s.heap news) (hk : KBw.bInts b = ks) (h0 : 0 ≤ i) (h2 : i ≤ (ks.length : Int)) (hz : ks.length ≤ 16777216)
    (h : ∀ b' h' t' k, Fr h₀ L h' m → News h₀ L h' news → KBw.bInts b' = ks.drop i.toNat → Q (.bytes b' t') { s with heap := h', toks := k })
    (hs : subscripted slice false (.bytes b t) (.ref s.heap.objs.size) = operate [.ref s.heap.objs.size, .bytes b t] (getItem (.bytes b t) (.ref s.heap.objs.size)))
    (ht : ∀ r, letTemporaryGo value (.bytes b t) r = pure ()) :
    wpAny (model prog w) A (subscriptTail value slice (.bytes b t) (.ref s.heap.objs.size)) Q E { s with heap := s.heap.push { cls := .type "slice", data := .fields #[.int i ti, .none, .none] } } :=
  KBc.slice_K hF hN hk (lo := some i) (hi := none) (by constructor) (by constructor) hz (fun h' t' k F' N' e => h _ h' t' k F' N' (by
    rw [e]
    show List.take (ks.length - clipAt ks.length i) (List.drop (clipAt ks.length i) ks) = _
    rw [clip_in h0 h2]
    exact List.take_of_length_le (by simp))) hs ht
theorem sliceJ (hF : Fr h₀ L s.heap m) (hN : News h₀ L s.heap news) (hk : KBw.bInts b = ks) (h0 : 0 ≤ j) (h2 : j ≤ (ks.length : Int)) (hz : ks.length ≤ 16777216)
    (h : ∀ b' h' t' k, Fr h₀ L h' m → News h₀ L h' news → KBw.bInts b' = ks.take j.toNat → Q (.bytes b' t') { s with heap := h', toks := k })
    (hs : subscripted slice false (.bytes b t) (.ref s.heap.objs.size) = operate [.ref s.heap.objs.size, .bytes b t] (getItem (.bytes b t) (.ref s.heap.objs.size)))
    (ht : ∀ r, letTemporaryGo value (.bytes b t) r = pure ()) :
    wpAny (model prog w) A (subscriptTail value slice (.bytes b t) (.ref s.heap.objs.size)) Q E { s with heap := s.heap.push { cls := .type "slice", data := .fields #[.none, .int j tj, .none] } } :=
  KBc.slice_K hF hN hk (lo := none) (hi := some j) (by constructor) (by constructor) hz (fun h' t' k F' N' e => h _ h' t' k F' N' (by
    rw [e]
    show List.take (clipAt ks.length j - 0) (List.drop 0 ks) = _
    rw [clip_in h0 h2]
    simp)) hs ht
end
theorem and_shift (a k : Nat) (h : k < 256) : (a * 256) &&& k = 0 := by
  apply Nat.eq_of_testBit_eq
  intro i
  have e : a * 256 = a <<< 8 := by rw [Nat.shiftLeft_eq]
  rw [Nat.testBit_and, e, Nat.testBit_shiftLeft, Nat.zero_testBit]
  by_cases hi : 8 ≤ i
  · have : k < 2 ^ i := Nat.lt_of_lt_of_le h (Nat.le_trans (by decide : 256 ≤ 2 ^ 8) (Nat.pow_le_pow_right (by decide) hi))
    rw [Nat.testBit_lt_two_pow this]; simp
  · simp [hi]
theorem or_shift {a k : Int} (ha : 0 ≤ a) (h0 : 0 ≤ k) (h1 : k < 256) : Builtin.bitOr (a * 2 ^ Int.toNat 8) k = a * 256 + k := by
  have e : a * 2 ^ Int.toNat 8 = a * 256 := rfl
  rw [bitOr_and, e, bitAnd_pp (by lia) h0]
  have h2 : (a * 256).toNat = a.toNat * 256 := by lia
  rw [h2, and_shift _ _ (by lia)]
  simp
theorem be_step {pre : List Int} {v k : Int} (e : v = beL pre) (b : 0 ≤ v) (b0 : pre.length ≤ 0 → v < 1) (b1 : pre.length ≤ 1 → v < 256) (b2 : pre.length ≤ 2 → v < 65536) (b3 : pre.length ≤ 3 → v < 16777216) (b4 : pre.length ≤ 4 → v < 4294967296) (h0 : 0 ≤ k) (h1 : k < 256) :
    (0 ≤ Builtin.bitOr (v * 2 ^ Int.toNat 8) k ∧ ((pre ++ [k]).length ≤ 0 → Builtin.bitOr (v * 2 ^ Int.toNat 8) k < 1) ∧ ((pre ++ [k]).length ≤ 1 → Builtin.bitOr (v * 2 ^ Int.toNat 8) k < 256) ∧ ((pre ++ [k]).length ≤ 2 → Builtin.bitOr (v * 2 ^ Int.toNat 8) k < 65536) ∧ ((pre ++ [k]).length ≤ 3 → Builtin.bitOr (v * 2 ^ Int.toNat 8) k < 16777216) ∧ ((pre ++ [k]).length ≤ 4 → Builtin.bitOr (v * 2 ^ Int.toNat 8) k < 4294967296)) ∧ Builtin.bitOr (v * 2 ^ Int.toNat 8) k = beL (pre ++ [k]) := by
  rw [or_shift b h0 h1, beL_snoc, ← e]
  simp only [List.length_append, List.length_cons, List.length_nil]
  refine ⟨⟨by lia, ?_, ?_, ?_, ?_, ?_⟩, by trivial⟩ <;> intro h <;> first | lia | (have := b0 (by lia); lia) | (have := b1 (by lia); lia) | (have := b2 (by lia); lia) | (have := b3 (by lia); lia)
theorem be_nil : (0 ≤ (0 : Int) ∧ (([] : List Int).length ≤ 0 → (0 : Int) < 1) ∧ (([] : List Int).length ≤ 1 → (0 : Int) < 256) ∧ (([] : List Int).length ≤ 2 → (0 : Int) < 65536) ∧ (([] : List Int).length ≤ 3 → (0 : Int) < 16777216) ∧ (([] : List Int).length ≤ 4 → (0 : Int) < 4294967296)) ∧ (0 : Int) = beL [] := by
  simp [beL]
section
variable {w : World} {mean : ExcName → Option Value} {mg mb : Str → Option Value} {dp un : Nat} {gd : Option (List Code)} {cn : Str} {cs : Scope} {a : Addr} {ccd : Value} {cl : List (Str × Addr)} {outer : List Env} {A₀ : Around} {base h₀ : Heap} {L : Addr} {m : Str → Option Value} {s : Shared} {Q E : Value → Shared → Prop}
set_option maxRecDepth 100000 in
set_option maxHeartbeats 8000000 in
theorem number_c {d : Array UInt8} {ks : List Int} {i c : Int} {t1 t2 t3 : Tok} {news : List (Addr × Obj)}
  (B : Below A₀ base outer h₀) (F : Fr h₀ L s.heap m) (X : (Mine.hd.heap_39 w.params).In h₀) (N : News h₀ L s.heap (news)) (T : Top Mine.hd.view_39 (looseW Mine.hd.view_39 [Str.ofString "ShapeError", Str.ofString "VERSIONS"]) mean mg mb h₀) (hk : cs.kind = .function)
  (hks : KBw.bInts d = ks) (h0 : 0 ≤ i) (h1 : 0 ≤ c) (h2 : i + c ≤ (ks.length : Int)) (hs : ks.length ≤ 1048576) (h4 : c ≤ 4)
  (hd : dp + 3 < recursionLimit) (hu : un + 24 < cLine)
  (hret : ∀ v t h' tk', v = beL ((ks.drop i.toNat).take c.toNat) → Fr h₀ L h' m → News h₀ L h' news → Q (.int v t) { s with heap := h', toks := tk' }) :
  wpAny (model PySem.Challenge.rw_pb0178_01.row.prog w) (ktrTop dp un gd cn cs L a ccd cl outer) (call (.ref 89) [.bytes d t1, .int i t2, .int c t3]) Q E s := by
  refine wpAny_call ?_
  k_dflt cell_enter
  k_with "state" => first | exact be_nil | exact be_step (by assumption) (by assumption) (by assumption) (by assumption) (by assumption) (by assumption) (by assumption) (by assumption) (by assumption)
  (repeat' (first | ((with_reducible show wpAny _ _ (pyIter (Value.bytes _ _)) _ _ _); k_dflt (k_state (fun pre total => (0 ≤ total ∧ (pre.length ≤ 0 → total < 1) ∧ (pre.length ≤ 1 → total < 256) ∧ (pre.length ≤ 2 → total < 65536) ∧ (pre.length ≤ 3 → total < 16777216) ∧ (pre.length ≤ 4 → total < 4294967296)) ∧ total = beL pre) "total")) | (with_reducible ((with_reducible show wpAny _ _ (exec (Stmt.For (Expr.Name _ _) (Expr.Subscript _ _ _) _ _ _) _) _ _ _); (k_here; (rename Fr _ _ _ _ => lF'); (with_unfolding_all refine' For_invVF lF' (by exact rfl) (by exact rfl) ?_; k_whole)))) | (with_reducible ((k_here; (with_reducible show wpAny _ _ (subscriptTail _ (Expr.Slice _ _ none _) (Value.bytes _ _) (Value.ref _)) _ _ _); (with_reducible rename Fr _ _ _ _ => F'); (with_reducible rename News _ _ _ _ => N'); (first | (refine sliceIJ (s := ⟨_, _, _, _, _⟩) F' N' (by assumption) (by lia) (by lia) (by first | lia | (simp only [List.length_append, List.length_take, List.length_drop, List.length_cons, List.length_nil]; lia)) (by lia) ?_ (by with_unfolding_all rfl) (by intro _; with_unfolding_all rfl)) | (refine sliceI (s := ⟨_, _, _, _, _⟩) F' N' (by assumption) (by lia) (by first | lia | (simp only [List.length_append, List.length_take, List.length_drop, List.length_cons, List.length_nil]; lia)) (by lia) ?_ (by with_unfolding_all rfl) (by intro _; with_unfolding_all rfl)) | (refine sliceJ (s := ⟨_, _, _, _, _⟩) F' N' (by assumption) (by lia) (by first | lia | (simp only [List.length_append, List.length_take, List.length_drop, List.length_cons, List.length_nil]; lia)) (by lia) ?_ (by with_unfolding_all rfl) (by intro _; with_unfolding_all rfl))); intro bS' hS' tS' kS' fS' nS' eS'; clear F' N'))) | (k_unfold; (try dsimp only)) | (k_end; wrow_close) | walk1 | (dsimp only; walk1) | (leave1; walk_say "STEP leave1"; try dsimp only) | fail "no step"))
  all_goals exact hret _ _ _ _ (by rw [show c.toNat = (i + c - i).toNat by lia]; assumption) (by assumption) (by assumption)
end
end
section
theorem part5 : True := by
  w_top off
  trivial
noncomputable def tagCodes (b : Bool) : List Int := if b then [112, 111, 115, 116] else [99, 109, 97, 112]
noncomputable def tagStr (b : Bool) : PySem.Str := if b then Str.ofString "post" else Str.ofString "cmap"
theorem tagL {bs : Array UInt8} {ks l : List Int} {i : Int} (e : KBw.bInts bs = (ks.drop i.toNat).take (i + 4 - i).toNat) (h : (ks.drop i.toNat).take 4 = l) : KBw.bInts bs = l := by
  rw [e, show (i + 4 - i).toNat = 4 by lia]; exact h
section
variable {w : World} {mean : ExcName → Option Value} {mg mb : Str → Option Value} {dp un : Nat} {gd : Option (List Code)} {cn : Str} {cs : Scope} {a : Addr} {ccd : Value} {cl : List (Str × Addr)} {outer : List Env} {A₀ : Around} {base h₀ : Heap} {L : Addr} {m : Str → Option Value} {s : Shared} {Q E : Value → Shared → Prop}
set_option maxRecDepth 100000 in
set_option maxHeartbeats 8000000 in
theorem tag_c {d : Array UInt8} {ks : List Int} {i : Int} {x dx : Addr} {t1 t2 k1 k2 : Tok} {rest : List (Addr × Obj)} {b : Bool}
  (B : Below A₀ base outer h₀) (F : Fr h₀ L s.heap m) (X : (Mine.hd.heap_39 w.params).In h₀) (N : News h₀ L s.heap ((x, instObj 180 dx) :: (dx, dictOf [⟨PyData.keyHash w.params (Str.ofString "data"), .str (Str.ofString "data") k1, .bytes d t1⟩, ⟨PyData.keyHash w.params (Str.ofString "at"), .str (Str.ofString "at") k2, .int (i) t2⟩] 2) :: rest)) (T : Top Mine.hd.view_39 (looseW Mine.hd.view_39 [Str.ofString "ShapeError", Str.ofString "VERSIONS"]) mean mg mb h₀) (hk : cs.kind = .function)
  (off : OwnOff rest [x, dx]) (hxd : @Ne Nat x dx) (hks : KBw.bInts d = ks) (h0 : 0 ≤ i) (h2 : i + 4 ≤ (ks.length : Int)) (hs : ks.length ≤ 1048576) (htag : (ks.drop i.toNat).take 4 = tagCodes b)
  (hd : dp + 4 < recursionLimit) (hu : un + 32 < cLine)
  (hret : ∀ sv t t3 h' tk', sv = tagStr b → Fr h₀ L h' m → News h₀ L h' ((x, instObj 180 dx) :: (dx, dictOf [⟨PyData.keyHash w.params (Str.ofString "data"), .str (Str.ofString "data") k1, .bytes d t1⟩, ⟨PyData.keyHash w.params (Str.ofString "at"), .str (Str.ofString "at") k2, .int (i + 4) t3⟩] 2) :: rest) → Q (.str sv t) { s with heap := h', toks := tk' }) :
  wpAny (model PySem.Challenge.rw_pb0178_01.row.prog w) (ktrTop dp un gd cn cs L a ccd cl outer) (call (.ref 165) [.ref x]) Q E s := by
  cases b
  all_goals (
    refine wpAny_call ?_
    k_dflt cell_enter
    (repeat' (first | ((with_reducible show PyProof.Rows.LCg.CompEnd _ _ _ _ _ _ _ _ _ _ _ _ _ _); k_dflt (refine PyProof.Rows.LCg.CompEnd.intro (by assumption) (by assumption) _ (fun p hp => hp) (by assumption) trivial ?_)) | ((with_reducible show PyProof.Rows.LCg.CompRest _ _ _ _ _ _ _ _ _ _ _ _ _ _ _ _ _ _ _); (with_unfolding_all (refine PyProof.Rows.LCg.CompRest.succ ?_; intro v' I' oI' C' oC' D' m' h' tk' E' hv' hC' hx' F' N' off' ne'; (obtain ⟨n9', t9', hn9', hv9'⟩ := hv'); subst hv9'; lcg_open hn9'))) | ((with_reducible show CompSrcW _ _ _ _ _ _ _ _ _ _ _ _ _ _); (k_here; k_dflt ((first | (refine CompSrcW.mk (iter_bytes (ks := [99, 109, 97, 112]) (tagL (by assumption) (by assumption)) (by rfl) (by k_asm) (by k_asm)) (by k_asm) (by k_asm) (by decide) trivial ?_) | (refine CompSrcW.mk (iter_bytes (ks := [112, 111, 115, 116]) (tagL (by assumption) (by assumption)) (by rfl) (by k_asm) (by k_asm)) (by k_asm) (by k_asm) (by decide) trivial ?_)); intro g'))) | ((with_reducible show wpAny _ _ (eval (Expr.ListComp _ _ _ _) _) _ _ _); (k_here; k_dflt (refine ListComp_W (F₀ := by k_asm) (by with_unfolding_all rfl) (by decide) (by rfl) (by decide) (by rfl) (by intro _; with_unfolding_all rfl) ?_))) | ((k_here; k_dflt ((with_reducible show wpAny _ _ (PySem.call (Value.ref 89) _ _) _ _ _); (refine' number_c (by k_asm) (by k_asm) (by k_asm) (by k_asm) (by k_asm) (by first | exact rfl | assumption) (by first | assumption | exact rfl) (by cb_room) (by cb_room) (by first | cb_room | (simp only [List.length_append, List.length_take, List.length_drop, List.length_cons, List.length_nil]; lia)) (by cb_room) (by cb_room) (by ktr_room) (by ktr_units) ?_); intro v9 t9 h9 tk9 e9 F9 N9; (try dsimp only); (try k_fold)))) | (with_reducible ((k_here; (with_reducible show wpAny _ _ (subscriptTail _ (Expr.Slice _ _ none _) (Value.bytes _ _) (Value.ref _)) _ _ _); (with_reducible rename Fr _ _ _ _ => F'); (with_reducible rename News _ _ _ _ => N'); (first | (refine sliceIJ (s := ⟨_, _, _, _, _⟩) F' N' (by assumption) (by lia) (by lia) (by first | lia | (simp only [List.length_append, List.length_take, List.length_drop, List.length_cons, List.length_nil]; lia)) (by lia) ?_ (by with_unfolding_all rfl) (by intro _; with_unfolding_all rfl)) | (refine sliceI (s := ⟨_, _, _, _, _⟩) F' N' (by assumption) (by lia) (by first | lia | (simp only [List.length_append, List.length_take, List.length_drop, List.length_cons, List.length_nil]; lia)) (by lia) ?_ (by with_unfolding_all rfl) (by intro _; with_unfolding_all rfl)) | (refine sliceJ (s := ⟨_, _, _, _, _⟩) F' N' (by assumption) (by lia) (by first | lia | (simp only [List.length_append, List.length_take, List.length_drop, List.length_cons, List.length_nil]; lia)) (by lia) ?_ (by with_unfolding_all rfl) (by intro _; with_unfolding_all rfl))); intro bS' hS' tS' kS' fS' nS' eS'; clear F' N'))) | (k_unfold; (try dsimp only)) | (k_end; wrow_close) | walk1 | (dsimp only; walk1) | (leave1; walk_say "STEP leave1"; try dsimp only) | fail "no step")))
  all_goals exact hret _ _ _ _ _ (by decide +kernel) (by assumption) (cb_drop (by assumption) (fun p hp => List.mem_cons_of_mem _ hp))
set_option maxRecDepth 100000 in
set_option maxHeartbeats 8000000 in
theorem u32_c {d : Array UInt8} {ks : List Int} {i : Int} {x dx : Addr} {t1 t2 k1 k2 : Tok} {rest : List (Addr × Obj)}
  (B : Below A₀ base outer h₀) (F : Fr h₀ L s.heap m) (X : (Mine.hd.heap_39 w.params).In h₀) (N : News h₀ L s.heap ((x, instObj 180 dx) :: (dx, dictOf [⟨PyData.keyHash w.params (Str.ofString "data"), .str (Str.ofString "data") k1, .bytes d t1⟩, ⟨PyData.keyHash w.params (Str.ofString "at"), .str (Str.ofString "at") k2, .int (i) t2⟩] 2) :: rest)) (T : Top Mine.hd.view_39 (looseW Mine.hd.view_39 [Str.ofString "ShapeError", Str.ofString "VERSIONS"]) mean mg mb h₀) (hk : cs.kind = .function)
  (off : OwnOff rest [x, dx]) (hxd : @Ne Nat x dx) (hks : KBw.bInts d = ks) (h0 : 0 ≤ i) (h2 : i + 4 ≤ (ks.length : Int)) (hs : ks.length ≤ 1048576)
  (hd : dp + 5 < recursionLimit) (hu : un + 40 < cLine)
  (hret : ∀ v t t3 h' tk', v = beL ((ks.drop i.toNat).take 4) → Fr h₀ L h' m → News h₀ L h' ((x, instObj 180 dx) :: (dx, dictOf [⟨PyData.keyHash w.params (Str.ofString "data"), .str (Str.ofString "data") k1, .bytes d t1⟩, ⟨PyData.keyHash w.params (Str.ofString "at"), .str (Str.ofString "at") k2, .int (i + 4) t3⟩] 2) :: rest) → Q (.int v t) { s with heap := h', toks := tk' }) :
  wpAny (model PySem.Challenge.rw_pb0178_01.row.prog w) (ktrTop dp un gd cn cs L a ccd cl outer) (call (.ref 160) [.ref x]) Q E s := by
  refine wpAny_call ?_
  k_dflt cell_enter
  (repeat' (first | ((with_reducible show PyProof.Rows.LCg.CompEnd _ _ _ _ _ _ _ _ _ _ _ _ _ _); k_dflt (refine PyProof.Rows.LCg.CompEnd.intro (by assumption) (by assumption) _ (fun p hp => hp) (by assumption) trivial ?_)) | ((with_reducible show PyProof.Rows.LCg.CompRest _ _ _ _ _ _ _ _ _ _ _ _ _ _ _ _ _ _ _); (with_unfolding_all (refine PyProof.Rows.LCg.CompRest.succ ?_; intro v' I' oI' C' oC' D' m' h' tk' E' hv' hC' hx' F' N' off' ne'; (obtain ⟨n9', t9', hn9', hv9'⟩ := hv'); subst hv9'; lcg_open hn9'))) | ((with_reducible show CompSrcW _ _ _ _ _ _ _ _ _ _ _ _ _ _); (k_here; k_dflt ((first | (refine CompSrcW.mk (iter_bytes (ks := [99, 109, 97, 112]) (tagL (by assumption) (by assumption)) (by rfl) (by k_asm) (by k_asm)) (by k_asm) (by k_asm) (by decide) trivial ?_) | (refine CompSrcW.mk (iter_bytes (ks := [112, 111, 115, 116]) (tagL (by assumption) (by assumption)) (by rfl) (by k_asm) (by k_asm)) (by k_asm) (by k_asm) (by decide) trivial ?_)); intro g'))) | ((with_reducible show wpAny _ _ (eval (Expr.ListComp _ _ _ _) _) _ _ _); (k_here; k_dflt (refine ListComp_W (F₀ := by k_asm) (by with_unfolding_all rfl) (by decide) (by rfl) (by decide) (by rfl) (by intro _; with_unfolding_all rfl) ?_))) | ((k_here; k_dflt ((with_reducible show wpAny _ _ (PySem.call (Value.ref 89) _ _) _ _ _); (refine' number_c (by k_asm) (by k_asm) (by k_asm) (by k_asm) (by k_asm) (by first | exact rfl | assumption) (by first | assumption | exact rfl) (by cb_room) (by cb_room) (by first | cb_room | (simp only [List.length_append, List.length_take, List.length_drop, List.length_cons, List.length_nil]; lia)) (by cb_room) (by cb_room) (by ktr_room) (by ktr_units) ?_); intro v9 t9 h9 tk9 e9 F9 N9; (try dsimp only); (try k_fold)))) | (with_reducible ((k_here; (with_reducible show wpAny _ _ (subscriptTail _ (Expr.Slice _ _ none _) (Value.bytes _ _) (Value.ref _)) _ _ _); (with_reducible rename Fr _ _ _ _ => F'); (with_reducible rename News _ _ _ _ => N'); (first | (refine sliceIJ (s := ⟨_, _, _, _, _⟩) F' N' (by assumption) (by lia) (by lia) (by first | lia | (simp only [List.length_append, List.length_take, List.length_drop, List.length_cons, List.length_nil]; lia)) (by lia) ?_ (by with_unfolding_all rfl) (by intro _; with_unfolding_all rfl)) | (refine sliceI (s := ⟨_, _, _, _, _⟩) F' N' (by assumption) (by lia) (by first | lia | (simp only [List.length_append, List.length_take, List.length_drop, List.length_cons, List.length_nil]; lia)) (by lia) ?_ (by with_unfolding_all rfl) (by intro _; with_unfolding_all rfl)) | (refine sliceJ (s := ⟨_, _, _, _, _⟩) F' N' (by assumption) (by lia) (by first | lia | (simp only [List.length_append, List.length_take, List.length_drop, List.length_cons, List.length_nil]; lia)) (by lia) ?_ (by with_unfolding_all rfl) (by intro _; with_unfolding_all rfl))); intro bS' hS' tS' kS' fS' nS' eS'; clear F' N'))) | (k_unfold; (try dsimp only)) | (k_end; wrow_close) | walk1 | (dsimp only; walk1) | (leave1; walk_say "STEP leave1"; try dsimp only) | fail "no step"))
  all_goals exact hret _ _ _ _ _ (by assumption) (by assumption) (by assumption)
set_option maxRecDepth 100000 in
set_option maxHeartbeats 8000000 in
theorem u16_c {d : Array UInt8} {ks : List Int} {i : Int} {x dx : Addr} {t1 t2 k1 k2 : Tok} {rest : List (Addr × Obj)}
  (B : Below A₀ base outer h₀) (F : Fr h₀ L s.heap m) (X : (Mine.hd.heap_39 w.params).In h₀) (N : News h₀ L s.heap ((x, instObj 180 dx) :: (dx, dictOf [⟨PyData.keyHash w.params (Str.ofString "data"), .str (Str.ofString "data") k1, .bytes d t1⟩, ⟨PyData.keyHash w.params (Str.ofString "at"), .str (Str.ofString "at") k2, .int (i) t2⟩] 2) :: rest)) (T : Top Mine.hd.view_39 (looseW Mine.hd.view_39 [Str.ofString "ShapeError", Str.ofString "VERSIONS"]) mean mg mb h₀) (hk : cs.kind = .function)
  (off : OwnOff rest [x, dx]) (hxd : @Ne Nat x dx) (hks : KBw.bInts d = ks) (h0 : 0 ≤ i) (h2 : i + 2 ≤ (ks.length : Int)) (hs : ks.length ≤ 1048576)
  (hd : dp + 5 < recursionLimit) (hu : un + 40 < cLine)
  (hret : ∀ v t t3 h' tk', v = beL ((ks.drop i.toNat).take 2) → Fr h₀ L h' m → News h₀ L h' ((x, instObj 180 dx) :: (dx, dictOf [⟨PyData.keyHash w.params (Str.ofString "data"), .str (Str.ofString "data") k1, .bytes d t1⟩, ⟨PyData.keyHash w.params (Str.ofString "at"), .str (Str.ofString "at") k2, .int (i + 2) t3⟩] 2) :: rest) → Q (.int v t) { s with heap := h', toks := tk' }) :
  wpAny (model PySem.Challenge.rw_pb0178_01.row.prog w) (ktrTop dp un gd cn cs L a ccd cl outer) (call (.ref 139) [.ref x]) Q E s := by
  refine wpAny_call ?_
  k_dflt cell_enter
  (repeat' (first | ((with_reducible show PyProof.Rows.LCg.CompEnd _ _ _ _ _ _ _ _ _ _ _ _ _ _); k_dflt (refine PyProof.Rows.LCg.CompEnd.intro (by assumption) (by assumption) _ (fun p hp => hp) (by assumption) trivial ?_)) | ((with_reducible show PyProof.Rows.LCg.CompRest _ _ _ _ _ _ _ _ _ _ _ _ _ _ _ _ _ _ _); (with_unfolding_all (refine PyProof.Rows.LCg.CompRest.succ ?_; intro v' I' oI' C' oC' D' m' h' tk' E' hv' hC' hx' F' N' off' ne'; (obtain ⟨n9', t9', hn9', hv9'⟩ := hv'); subst hv9'; lcg_open hn9'))) | ((with_reducible show CompSrcW _ _ _ _ _ _ _ _ _ _ _ _ _ _); (k_here; k_dflt ((first | (refine CompSrcW.mk (iter_bytes (ks := [99, 109, 97, 112]) (tagL (by assumption) (by assumption)) (by rfl) (by k_asm) (by k_asm)) (by k_asm) (by k_asm) (by decide) trivial ?_) | (refine CompSrcW.mk (iter_bytes (ks := [112, 111, 115, 116]) (tagL (by assumption) (by assumption)) (by rfl) (by k_asm) (by k_asm)) (by k_asm) (by k_asm) (by decide) trivial ?_)); intro g'))) | ((with_reducible show wpAny _ _ (eval (Expr.ListComp _ _ _ _) _) _ _ _); (k_here; k_dflt (refine ListComp_W (F₀ := by k_asm) (by with_unfolding_all rfl) (by decide) (by rfl) (by decide) (by rfl) (by intro _; with_unfolding_all rfl) ?_))) | ((k_here; k_dflt ((with_reducible show wpAny _ _ (PySem.call (Value.ref 89) _ _) _ _ _); (refine' number_c (by k_asm) (by k_asm) (by k_asm) (by k_asm) (by k_asm) (by first | exact rfl | assumption) (by first | assumption | exact rfl) (by cb_room) (by cb_room) (by first | cb_room | (simp only [List.length_append, List.length_take, List.length_drop, List.length_cons, List.length_nil]; lia)) (by cb_room) (by cb_room) (by ktr_room) (by ktr_units) ?_); intro v9 t9 h9 tk9 e9 F9 N9; (try dsimp only); (try k_fold)))) | (with_reducible ((k_here; (with_reducible show wpAny _ _ (subscriptTail _ (Expr.Slice _ _ none _) (Value.bytes _ _) (Value.ref _)) _ _ _); (with_reducible rename Fr _ _ _ _ => F'); (with_reducible rename News _ _ _ _ => N'); (first | (refine sliceIJ (s := ⟨_, _, _, _, _⟩) F' N' (by assumption) (by lia) (by lia) (by first | lia | (simp only [List.length_append, List.length_take, List.length_drop, List.length_cons, List.length_nil]; lia)) (by lia) ?_ (by with_unfolding_all rfl) (by intro _; with_unfolding_all rfl)) | (refine sliceI (s := ⟨_, _, _, _, _⟩) F' N' (by assumption) (by lia) (by first | lia | (simp only [List.length_append, List.length_take, List.length_drop, List.length_cons, List.length_nil]; lia)) (by lia) ?_ (by with_unfolding_all rfl) (by intro _; with_unfolding_all rfl)) | (refine sliceJ (s := ⟨_, _, _, _, _⟩) F' N' (by assumption) (by lia) (by first | lia | (simp only [List.length_append, List.length_take, List.length_drop, List.length_cons, List.length_nil]; lia)) (by lia) ?_ (by with_unfolding_all rfl) (by intro _; with_unfolding_all rfl))); intro bS' hS' tS' kS' fS' nS' eS'; clear F' N'))) | (k_unfold; (try dsimp only)) | (k_end; wrow_close) | walk1 | (dsimp only; walk1) | (leave1; walk_say "STEP leave1"; try dsimp only) | fail "no step"))
  all_goals exact hret _ _ _ _ _ (by assumption) (by assumption) (by assumption)
end
end
section
theorem part6 : True := by
  w_top off
  trivial
theorem keep2 {a b c e : Addr × Obj} {news : List (Addr × Obj)} : ∀ p ∈ a :: b :: news, p ∈ a :: b :: c :: e :: news := fun p hp => by
  refine List.subset_def.mp ?_ hp
  repeat (first | refine List.cons_subset.mpr ⟨by repeat (first | exact .head _ | refine .tail _ ?_), ?_⟩ | refine List.append_subset.mpr ⟨?_, ?_⟩)
  all_goals first | exact List.nil_subset _ | exact fun _ h => by repeat (first | exact h | exact List.mem_append_left _ h | refine .tail _ ?_ | refine List.mem_append_right _ ?_)
section
variable {w : World} {mean : ExcName → Option Value} {mg mb : Str → Option Value} {dp un : Nat} {gd : Option (List Code)} {cn : Str} {cs : Scope} {a : Addr} {ccd : Value} {cl : List (Str × Addr)} {outer : List Env} {A₀ : Around} {base h₀ : Heap} {L : Addr} {m : Str → Option Value} {s : Shared} {Q E : Value → Shared → Prop}
set_option maxRecDepth 100000 in
set_option maxHeartbeats 8000000 in
theorem record_c {d : Array UInt8} {ks : List Int} {i : Int} {t1 t2 : Tok} {news : List (Addr × Obj)} {b : Bool}
  (B : Below A₀ base outer h₀) (F : Fr h₀ L s.heap m) (X : (Mine.hd.heap_39 w.params).In h₀) (N : News h₀ L s.heap (news)) (T : Top Mine.hd.view_39 (looseW Mine.hd.view_39 [Str.ofString "ShapeError", Str.ofString "VERSIONS"]) mean mg mb h₀) (hk : cs.kind = .function)
  (hks : KBw.bInts d = ks) (h0 : 0 ≤ i) (h2 : i + 16 ≤ (ks.length : Int)) (hs : ks.length ≤ 1048576) (htag : (ks.drop i.toNat).take 4 = tagCodes b)
  (hd : dp + 7 < recursionLimit) (hu : un + 56 < cLine)
  (hret : ∀ z1 dz1 sv y1 bg ln a1 b1 c1 e1 f1 g1 o1 p1 q1 r1 h' tk', sv = tagStr b → bg = beL ((ks.drop (i + 8).toNat).take 4) → ln = beL ((ks.drop (i + 12).toNat).take 4) → (∀ p ∈ news, @LT.lt Nat _ p.1 dz1) → @LT.lt Nat _ dz1 z1 → Fr h₀ L h' m → News h₀ L h' ((z1, instObj 209 dz1) :: (dz1, dictOf [⟨PyData.keyHash w.params (Str.ofString "tag"), .str (Str.ofString "tag") a1, .str (sv) b1⟩, ⟨PyData.keyHash w.params (Str.ofString "total"), .str (Str.ofString "total") c1, .int y1 e1⟩, ⟨PyData.keyHash w.params (Str.ofString "begin"), .str (Str.ofString "begin") f1, .int bg g1⟩, ⟨PyData.keyHash w.params (Str.ofString "length"), .str (Str.ofString "length") o1, .int ln p1⟩, ⟨PyData.keyHash w.params (Str.ofString "where"), .str (Str.ofString "where") q1, .int i r1⟩] 5) :: news) → Q (.ref z1) { s with heap := h', toks := tk' }) :
  wpAny (model PySem.Challenge.rw_pb0178_01.row.prog w) (ktrTop dp un gd cn cs L a ccd cl outer) (call (.ref 227) [.bytes d t1, .int i t2]) Q E s := by
  refine wpAny_call ?_
  k_dflt cell_enter
  (repeat' (first | ((k_here; k_dflt ((with_reducible show wpAny _ _ (PySem.call (Value.ref 160) _ _) _ _ _); (refine' u32_c (by k_asm) (by k_asm) (by k_asm) (by k_asm) (by k_asm) (by first | exact rfl | assumption) (by ktr_rel) (by cb_room) (by first | assumption | exact rfl) (by cb_room) (by first | cb_room | (simp only [List.length_append, List.length_take, List.length_drop, List.length_cons, List.length_nil]; lia)) (by cb_room) (by ktr_room) (by ktr_units) ?_); intro v9 t9 t8 h9 tk9 e9 F9 N9; (try dsimp only); (try k_fold)))) | ((k_here; k_dflt ((with_reducible show wpAny _ _ (PySem.call (Value.ref 165) _ _) _ _ _); (refine' tag_c (by k_asm) (by k_asm) (by k_asm) (by k_asm) (by k_asm) (by first | exact rfl | assumption) (by ktr_rel) (by cb_room) (by first | assumption | exact rfl) (by cb_room) (by first | cb_room | (simp only [List.length_append, List.length_take, List.length_drop, List.length_cons, List.length_nil]; lia)) (by cb_room) (by first | assumption) (by ktr_room) (by ktr_units) ?_); intro v9 t9 t8 h9 tk9 e9 F9 N9; (try dsimp only); (try k_fold)))) | (k_unfold; (try dsimp only)) | (k_end; wrow_close) | walk1 | (dsimp only; walk1) | (leave1; walk_say "STEP leave1"; try dsimp only) | fail "no step"))
  all_goals (
    refine' hret _ _ _ _ _ _ _ _ _ _ _ _ _ _ _ _ _ _ ?ha ?hb ?hc ?hlt ?hl2 ?hF ?hN
    case hF => assumption
    case hN => exact cb_drop (by assumption) keep2
    case ha => assumption
    case hb => (rw [show i + 8 = i + 4 + 4 by lia]; assumption)
    case hc => (rw [show i + 12 = i + 4 + 4 + 4 by lia]; assumption)
    case hl2 => assumption
    case hlt => exact ktn_ltOf (by assumption : _ ∧ _ ∧ _).2.2)
end
end
section
theorem part7 : True := by
  w_top off
  trivial
section
variable {w : World} {mean : ExcName → Option Value} {mg mb : Str → Option Value} {dp un : Nat} {gd : Option (List Code)} {cn : Str} {cs : Scope} {a : Addr} {ccd : Value} {cl : List (Str × Addr)} {outer : List Env} {A₀ : Around} {base h₀ : Heap} {L : Addr} {m : Str → Option Value} {s : Shared} {Q E : Value → Shared → Prop}
set_option maxRecDepth 100000 in
set_option maxHeartbeats 8000000 in
theorem nio1_c {rl : Addr} {n : Nat} {sz : Int} {ts : Tok} {news : List (Addr × Obj)} {z1 dz1 : Addr} {bg1 ln1 wh1 y1 : Int} {a1 b1 c1 e1 f1 g1 o1 p1 q1 r1 : Tok}
  (B : Below A₀ base outer h₀) (F : Fr h₀ L s.heap m) (X : (Mine.hd.heap_39 w.params).In h₀) (N : News h₀ L s.heap (news)) (T : Top Mine.hd.view_39 (looseW Mine.hd.view_39 [Str.ofString "ShapeError", Str.ofString "VERSIONS"]) mean mg mb h₀) (hk : cs.kind = .function)
  (ml : (rl, listOf #[.ref z1] n) ∈ news) (m1a : (z1, instObj 209 dz1) ∈ news) (m1b : (dz1, dictOf [⟨PyData.keyHash w.params (Str.ofString "tag"), .str (Str.ofString "tag") a1, .str (Str.ofString "cmap") b1⟩, ⟨PyData.keyHash w.params (Str.ofString "total"), .str (Str.ofString "total") c1, .int y1 e1⟩, ⟨PyData.keyHash w.params (Str.ofString "begin"), .str (Str.ofString "begin") f1, .int bg1 g1⟩, ⟨PyData.keyHash w.params (Str.ofString "length"), .str (Str.ofString "length") o1, .int ln1 p1⟩, ⟨PyData.keyHash w.params (Str.ofString "where"), .str (Str.ofString "where") q1, .int wh1 r1⟩] 5) ∈ news) (hb1 : bg1 + ln1 ≤ sz)
  (hd : dp + 4 < recursionLimit) (hu : un + 32 < cLine)
  (hret : ∀ h' tk', Fr h₀ L h' m → News h₀ L h' news → Q .none { s with heap := h', toks := tk' }) :
  wpAny (model PySem.Challenge.rw_pb0178_01.row.prog w) (ktrTop dp un gd cn cs L a ccd cl outer) (call (.ref 234) [.ref rl, .int sz ts]) Q E s := by
  refine wpAny_call ?_
  k_dflt cell_enter
  (repeat' (first | ((with_reducible show UnrEnd _ _ _ _ _ _ _); k_dflt (refine UnrEnd.intro (by assumption) (by assumption) _ (fun p hp => hp) (by first | exact off_lt (by assumption) | exact off_ltA (by assumption)) ?_)) | ((k_here; (with_reducible show wpAny _ _ (subscriptTail _ _ (Value.ref _) (Value.int _ _)) _ _ _); k_dflt (first | (refine' item_mem0 (by k_asm) (by k_mem) (by lia) ?_ (by with_unfolding_all rfl); k_whole) | (refine' item_mem1 (by k_asm) (by k_mem) (by lia) ?_ (by with_unfolding_all rfl); k_whole) | (refine' item_mem2 (by k_asm) (by k_mem) (by lia) ?_ (by with_unfolding_all rfl); k_whole)))) | (k_unfold; (try dsimp only)) | (k_end; wrow_close) | walk1 | (dsimp only; walk1) | (leave1; walk_say "STEP leave1"; try dsimp only) | fail "no step"))
  all_goals exact hret _ _ (by assumption) (by assumption)
set_option maxRecDepth 100000 in
set_option maxHeartbeats 8000000 in
theorem nio2_c {rl : Addr} {n : Nat} {sz : Int} {ts : Tok} {news : List (Addr × Obj)} {z1 dz1 : Addr} {bg1 ln1 wh1 y1 : Int} {a1 b1 c1 e1 f1 g1 o1 p1 q1 r1 : Tok} {z2 dz2 : Addr} {bg2 ln2 wh2 y2 : Int} {a2 b2 c2 e2 f2 g2 o2 p2 q2 r2 : Tok}
  (B : Below A₀ base outer h₀) (F : Fr h₀ L s.heap m) (X : (Mine.hd.heap_39 w.params).In h₀) (N : News h₀ L s.heap (news)) (T : Top Mine.hd.view_39 (looseW Mine.hd.view_39 [Str.ofString "ShapeError", Str.ofString "VERSIONS"]) mean mg mb h₀) (hk : cs.kind = .function)
  (ml : (rl, listOf #[.ref z1, .ref z2] n) ∈ news) (m1a : (z1, instObj 209 dz1) ∈ news) (m1b : (dz1, dictOf [⟨PyData.keyHash w.params (Str.ofString "tag"), .str (Str.ofString "tag") a1, .str (Str.ofString "cmap") b1⟩, ⟨PyData.keyHash w.params (Str.ofString "total"), .str (Str.ofString "total") c1, .int y1 e1⟩, ⟨PyData.keyHash w.params (Str.ofString "begin"), .str (Str.ofString "begin") f1, .int bg1 g1⟩, ⟨PyData.keyHash w.params (Str.ofString "length"), .str (Str.ofString "length") o1, .int ln1 p1⟩, ⟨PyData.keyHash w.params (Str.ofString "where"), .str (Str.ofString "where") q1, .int wh1 r1⟩] 5) ∈ news) (m2a : (z2, instObj 209 dz2) ∈ news) (m2b : (dz2, dictOf [⟨PyData.keyHash w.params (Str.ofString "tag"), .str (Str.ofString "tag") a2, .str (Str.ofString "post") b2⟩, ⟨PyData.keyHash w.params (Str.ofString "total"), .str (Str.ofString "total") c2, .int y2 e2⟩, ⟨PyData.keyHash w.params (Str.ofString "begin"), .str (Str.ofString "begin") f2, .int bg2 g2⟩, ⟨PyData.keyHash w.params (Str.ofString "length"), .str (Str.ofString "length") o2, .int ln2 p2⟩, ⟨PyData.keyHash w.params (Str.ofString "where"), .str (Str.ofString "where") q2, .int wh2 r2⟩] 5) ∈ news) (hb1 : bg1 + ln1 ≤ sz) (hb2 : bg2 + ln2 ≤ sz)
  (hd : dp + 4 < recursionLimit) (hu : un + 32 < cLine)
  (hret : ∀ h' tk', Fr h₀ L h' m → News h₀ L h' news → Q .none { s with heap := h', toks := tk' }) :
  wpAny (model PySem.Challenge.rw_pb0178_01.row.prog w) (ktrTop dp un gd cn cs L a ccd cl outer) (call (.ref 234) [.ref rl, .int sz ts]) Q E s := by
  refine wpAny_call ?_
  k_dflt cell_enter
  (repeat' (first | ((with_reducible show UnrEnd _ _ _ _ _ _ _); k_dflt (refine UnrEnd.intro (by assumption) (by assumption) _ (fun p hp => hp) (by first | exact off_lt (by assumption) | exact off_ltA (by assumption)) ?_)) | ((k_here; (with_reducible show wpAny _ _ (subscriptTail _ _ (Value.ref _) (Value.int _ _)) _ _ _); k_dflt (first | (refine' item_mem0 (by k_asm) (by k_mem) (by lia) ?_ (by with_unfolding_all rfl); k_whole) | (refine' item_mem1 (by k_asm) (by k_mem) (by lia) ?_ (by with_unfolding_all rfl); k_whole) | (refine' item_mem2 (by k_asm) (by k_mem) (by lia) ?_ (by with_unfolding_all rfl); k_whole)))) | (k_unfold; (try dsimp only)) | (k_end; wrow_close) | walk1 | (dsimp only; walk1) | (leave1; walk_say "STEP leave1"; try dsimp only) | fail "no step"))
  all_goals exact hret _ _ (by assumption) (by assumption)
end
end
section
local macro_rules | `(tactic| lcg_src) => `(tactic| first | exact Or.inr ⟨_, by k_mem, rfl, _, rfl⟩ | exact True.intro)
local macro_rules | `(tactic| ktn_open) => `(tactic| (first | assumption | (simp only [PyProof.Rows.LCg.Off3, and_true]; (try dsimp only); (refine ⟨?_, ?_⟩) <;> first | lia | assumption) | (simp only [PyProof.Rows.LCg.Off3, and_true]; lia)))
section
theorem part8 : True := by
  w_top off
  trivial
noncomputable def naD : List Stmt × Scope := match pS 23 with
  | .FunctionDef _ _ b _ _ _ sc _ _ _ => (b, sc)
  | _ => ([], default)
noncomputable abbrev naN : PySem.Str := Str.ofString "need_apart"
noncomputable abbrev naSc : Scope := naD.2
noncomputable abbrev tupI (b e w : Int) (x y z : Tok) : Obj := { cls := .type "tuple", data := .seq #[.int b x, .int e y, .int w z] }
section
variable {w : World} {mean : ExcName → Option Value} {mg mb : Str → Option Value} {dp un : Nat} {gd : Option (List Code)} {cn : Str} {cs : Scope} {a : Addr} {ccd : Value} {cl : List (Str × Addr)} {outer : List Env} {A₀ : Around} {base h₀ : Heap} {L : Addr} {m : Str → Option Value} {s : Shared} {Q : Flow → Shared → Prop} {E : Value → Shared → Prop}
set_option maxRecDepth 100000 in
set_option maxHeartbeats 8000000 in
theorem naB0 {D : Addr} {bn bh : Int} {tb th : Tok} {news : List (Addr × Obj)} 
  (B : Below A₀ base outer h₀) (F : Fr h₀ L s.heap m) (X : (Mine.hd.heap_39 w.params).In h₀) (N : News h₀ L s.heap ((D, PyProof.Rows.LCg.lst []) :: news)) (T : Top Mine.hd.view_39 (looseW Mine.hd.view_39 [Str.ofString "ShapeError", Str.ofString "VERSIONS"]) mean mg mb h₀)
  (hd : dp + 3 < recursionLimit) (hu : un + 24 < cLine) (hl : m (Str.ofString "line") = some (.ref D)) (hb : m (Str.ofString "begun") = some (.int bn tb)) (he : m (Str.ofString "behind") = some (.int bh th)) (off : PyProof.Rows.LCg.Off1 D news) (hbb : bn < bh) (hE : PassesOwn (model PySem.Challenge.rw_pb0178_01.row.prog w) (ktrTop dp un gd naN naSc L 239 (.ref 238) [] outer) (envOf naN naSc L 239 (.ref 238)) E)
  (hret : ∀ h' tk' m', Fr h₀ L h' m' → News h₀ L h' news → Q .next { s with heap := h', toks := tk' }) :
  wpAny (model PySem.Challenge.rw_pb0178_01.row.prog w) (ktrTop dp un gd naN naSc L 239 (.ref 238) [] outer) (execs (naD.1.drop 1) (envOf naN naSc L 239 (.ref 238))) Q E s := by
  with_unfolding_all (show wpAny _ _ (execs (Stmt.Expr _ _ :: _) _) _ _ _)
  (repeat' (first | (with_reducible ((with_reducible show wpAny _ _ (exec (Stmt.For (Expr.Name _ _) (Expr.Call _ _ _ _) _ _ _) _) _ _ _); (k_here; (rename Fr _ _ _ _ => lF'); (with_unfolding_all refine' For_invVF lF' (by exact rfl) (by exact rfl) ?_; k_whole)))) | ((k_here; (with_reducible show wpAny _ _ (call (Value.builtin "len") [Value.ref _]) _ _ _); k_dflt (refine len_memL (by k_asm) (by repeat (first | assumption | exact .head _ | refine .tail _ ?_)) (by first | lia | (simp only [List.size_toArray]; lia)) ?_))) | ((k_here; (with_reducible show wpAny _ _ (eval (Expr.Name _ _) (envOf _ _ _ _ _)) _ _ _); k_dflt (refine nameX_L (by k_asm) (by with_reducible assumption) ?_))) | ((with_reducible show PyProof.Rows.LCg.CompEnd _ _ _ _ _ _ _ _ _ _ _ _ _ _); k_dflt (first | refine cend0 (by assumption) (by assumption) (by ktn_open) (by lcg_src) ?_ | refine cend1 (by assumption) (by assumption) (by ktn_open) (by dsimp only; first | exact off9 | lia) (by lcg_src) ?_ | refine cend2 (by assumption) (by assumption) (by ktn_open) (by dsimp only; first | exact off9 | lia) (by dsimp only; first | exact off9 | lia) (by lcg_src) ?_)) | ((with_reducible show UnrEnd _ _ _ _ _ _ _); k_dflt (refine UnrEnd.intro (by assumption) (by assumption) _ (fun p hp => hp) (by first | exact off_lt (by assumption) | exact off_ltA (by assumption)) ?_)) | ((k_here; (with_reducible show wpAny _ _ (subscriptTail _ _ (Value.ref _) (Value.int _ _)) _ _ _); k_dflt (first | (refine' item_mem0 (by k_asm) (by k_mem) (by lia) ?_ (by with_unfolding_all rfl); k_whole) | (refine' item_mem1 (by k_asm) (by k_mem) (by lia) ?_ (by with_unfolding_all rfl); k_whole) | (refine' item_mem2 (by k_asm) (by k_mem) (by lia) ?_ (by with_unfolding_all rfl); k_whole)))) | ((with_reducible show KasNext _ _ _ _ _); k_dflt (first | refine kas_nextD (b' := false) (by first | rfl | (simp only [decide_eq_false_iff_not]; lia)) ?_ | refine kas_nextD (b' := true) (by first | rfl | (simp only [decide_eq_true_eq]; lia)) ?_); kas_known) | ((with_reducible show KatGo _ _ _ _ _ _ _ _ _ _ _ _); k_dflt (first | refine kat_goD (e' := false) (by simp only [beq_eq_false_iff_ne, ne_eq]; lia) ?_ | refine kat_goD (e' := true) (by simp only [beq_iff_eq]; lia) ?_)) | ((k_here; (with_reducible show wpAny _ _ (call (Value.builtin _) [Value.ref _]) _ _ _); k_dflt ((with_reducible rename News _ _ _ _ => nS'); (try simp only [List.push_toArray, List.cons_append, List.nil_append] at nS'); (first | ((with_unfolding_all refine' kat_sorted (by k_asm) nS' (isl nS' (by k_mem)) (by exact Nat.le_of_ble_eq_true rfl) (by exact Nat.le_of_ble_eq_true rfl) ?_; k_whole); intro D' e' h' F' N' l1; (try k_lt l1); kat_kinds) | ((refine' sorted_one (by k_asm) nS' (isl nS' (by k_mem)) ?_; k_whole); intro D' c' h' F' N' l1; (try k_lt l1); (try dsimp only)))))) | (k_unfold; (try dsimp only)) | (k_unmd; k_unfold; (try dsimp only)) | (k_end; wrow_close) | walk1 | (dsimp only; walk1) | (leave1; walk_say "STEP leave1"; try dsimp only) | fail "no step"))
  all_goals exact hret _ _ _ (by assumption) (cb_drop (by assumption) (by (intro p hp; repeat (first | exact hp | apply List.mem_cons_of_mem))))
set_option maxRecDepth 100000 in
set_option maxHeartbeats 8000000 in
theorem naB1a {D : Addr} {bn bh : Int} {tb th : Tok} {news : List (Addr × Obj)} {t1 : Addr} {b1 e1 w1 : Int} {x1 y1 z1 : Tok}
  (B : Below A₀ base outer h₀) (F : Fr h₀ L s.heap m) (X : (Mine.hd.heap_39 w.params).In h₀) (N : News h₀ L s.heap ((D, PyProof.Rows.LCg.lst [.ref t1]) :: (t1, tupI b1 e1 w1 x1 y1 z1) :: news)) (T : Top Mine.hd.view_39 (looseW Mine.hd.view_39 [Str.ofString "ShapeError", Str.ofString "VERSIONS"]) mean mg mb h₀)
  (hd : dp + 3 < recursionLimit) (hu : un + 24 < cLine) (hl : m (Str.ofString "line") = some (.ref D)) (hb : m (Str.ofString "begun") = some (.int bn tb)) (he : m (Str.ofString "behind") = some (.int bh th)) (off : t1 ≠ D ∧ PyProof.Rows.LCg.Off1 D news) (hbb : bn < bh) (hlt : b1 < e1) (hp : e1 ≤ bn) (hE : PassesOwn (model PySem.Challenge.rw_pb0178_01.row.prog w) (ktrTop dp un gd naN naSc L 239 (.ref 238) [] outer) (envOf naN naSc L 239 (.ref 238)) E)
  (hret : ∀ h' tk' m', Fr h₀ L h' m' → News h₀ L h' news → Q .next { s with heap := h', toks := tk' }) :
  wpAny (model PySem.Challenge.rw_pb0178_01.row.prog w) (ktrTop dp un gd naN naSc L 239 (.ref 238) [] outer) (execs (naD.1.drop 1) (envOf naN naSc L 239 (.ref 238))) Q E s := by
  with_unfolding_all (show wpAny _ _ (execs (Stmt.Expr _ _ :: _) _) _ _ _)
  (repeat' (first | (with_reducible ((with_reducible show wpAny _ _ (exec (Stmt.For (Expr.Name _ _) (Expr.Call _ _ _ _) _ _ _) _) _ _ _); (k_here; (rename Fr _ _ _ _ => lF'); (with_unfolding_all refine' For_invVF lF' (by exact rfl) (by exact rfl) ?_; k_whole)))) | ((k_here; (with_reducible show wpAny _ _ (call (Value.builtin "len") [Value.ref _]) _ _ _); k_dflt (refine len_memL (by k_asm) (by repeat (first | assumption | exact .head _ | refine .tail _ ?_)) (by first | lia | (simp only [List.size_toArray]; lia)) ?_))) | ((k_here; (with_reducible show wpAny _ _ (eval (Expr.Name _ _) (envOf _ _ _ _ _)) _ _ _); k_dflt (refine nameX_L (by k_asm) (by with_reducible assumption) ?_))) | ((with_reducible show PyProof.Rows.LCg.CompEnd _ _ _ _ _ _ _ _ _ _ _ _ _ _); k_dflt (first | refine cend0 (by assumption) (by assumption) (by ktn_open) (by lcg_src) ?_ | refine cend1 (by assumption) (by assumption) (by ktn_open) (by dsimp only; first | exact off9 | lia) (by lcg_src) ?_ | refine cend2 (by assumption) (by assumption) (by ktn_open) (by dsimp only; first | exact off9 | lia) (by dsimp only; first | exact off9 | lia) (by lcg_src) ?_)) | ((with_reducible show UnrEnd _ _ _ _ _ _ _); k_dflt (refine UnrEnd.intro (by assumption) (by assumption) _ (fun p hp => hp) (by first | exact off_lt (by assumption) | exact off_ltA (by assumption)) ?_)) | ((k_here; (with_reducible show wpAny _ _ (subscriptTail _ _ (Value.ref _) (Value.int _ _)) _ _ _); k_dflt (first | (refine' item_mem0 (by k_asm) (by k_mem) (by lia) ?_ (by with_unfolding_all rfl); k_whole) | (refine' item_mem1 (by k_asm) (by k_mem) (by lia) ?_ (by with_unfolding_all rfl); k_whole) | (refine' item_mem2 (by k_asm) (by k_mem) (by lia) ?_ (by with_unfolding_all rfl); k_whole)))) | ((with_reducible show KasNext _ _ _ _ _); k_dflt (first | refine kas_nextD (b' := false) (by first | rfl | (simp only [decide_eq_false_iff_not]; lia)) ?_ | refine kas_nextD (b' := true) (by first | rfl | (simp only [decide_eq_true_eq]; lia)) ?_); kas_known) | ((with_reducible show KatGo _ _ _ _ _ _ _ _ _ _ _ _); k_dflt (first | refine kat_goD (e' := false) (by simp only [beq_eq_false_iff_ne, ne_eq]; lia) ?_ | refine kat_goD (e' := true) (by simp only [beq_iff_eq]; lia) ?_)) | ((k_here; (with_reducible show wpAny _ _ (call (Value.builtin _) [Value.ref _]) _ _ _); k_dflt ((with_reducible rename News _ _ _ _ => nS'); (try simp only [List.push_toArray, List.cons_append, List.nil_append] at nS'); (first | ((with_unfolding_all refine' kat_sorted (by k_asm) nS' (isl nS' (by k_mem)) (by exact Nat.le_of_ble_eq_true rfl) (by exact Nat.le_of_ble_eq_true rfl) ?_; k_whole); intro D' e' h' F' N' l1; (try k_lt l1); kat_kinds) | ((refine' sorted_one (by k_asm) nS' (isl nS' (by k_mem)) ?_; k_whole); intro D' c' h' F' N' l1; (try k_lt l1); (try dsimp only)))))) | (k_unfold; (try dsimp only)) | (k_unmd; k_unfold; (try dsimp only)) | (k_end; wrow_close) | walk1 | (dsimp only; walk1) | (leave1; walk_say "STEP leave1"; try dsimp only) | fail "no step"))
  all_goals exact hret _ _ _ (by assumption) (cb_drop (by assumption) (by (intro p hp; repeat (first | exact hp | apply List.mem_cons_of_mem))))
set_option maxRecDepth 100000 in
set_option maxHeartbeats 8000000 in
theorem naB1b {D : Addr} {bn bh : Int} {tb th : Tok} {news : List (Addr × Obj)} {t1 : Addr} {b1 e1 w1 : Int} {x1 y1 z1 : Tok}
  (B : Below A₀ base outer h₀) (F : Fr h₀ L s.heap m) (X : (Mine.hd.heap_39 w.params).In h₀) (N : News h₀ L s.heap ((D, PyProof.Rows.LCg.lst [.ref t1]) :: (t1, tupI b1 e1 w1 x1 y1 z1) :: news)) (T : Top Mine.hd.view_39 (looseW Mine.hd.view_39 [Str.ofString "ShapeError", Str.ofString "VERSIONS"]) mean mg mb h₀)
  (hd : dp + 3 < recursionLimit) (hu : un + 24 < cLine) (hl : m (Str.ofString "line") = some (.ref D)) (hb : m (Str.ofString "begun") = some (.int bn tb)) (he : m (Str.ofString "behind") = some (.int bh th)) (off : t1 ≠ D ∧ PyProof.Rows.LCg.Off1 D news) (hbb : bn < bh) (hlt : b1 < e1) (hp : bh ≤ b1) (hE : PassesOwn (model PySem.Challenge.rw_pb0178_01.row.prog w) (ktrTop dp un gd naN naSc L 239 (.ref 238) [] outer) (envOf naN naSc L 239 (.ref 238)) E)
  (hret : ∀ h' tk' m', Fr h₀ L h' m' → News h₀ L h' news → Q .next { s with heap := h', toks := tk' }) :
  wpAny (model PySem.Challenge.rw_pb0178_01.row.prog w) (ktrTop dp un gd naN naSc L 239 (.ref 238) [] outer) (execs (naD.1.drop 1) (envOf naN naSc L 239 (.ref 238))) Q E s := by
  with_unfolding_all (show wpAny _ _ (execs (Stmt.Expr _ _ :: _) _) _ _ _)
  (repeat' (first | (with_reducible ((with_reducible show wpAny _ _ (exec (Stmt.For (Expr.Name _ _) (Expr.Call _ _ _ _) _ _ _) _) _ _ _); (k_here; (rename Fr _ _ _ _ => lF'); (with_unfolding_all refine' For_invVF lF' (by exact rfl) (by exact rfl) ?_; k_whole)))) | ((k_here; (with_reducible show wpAny _ _ (call (Value.builtin "len") [Value.ref _]) _ _ _); k_dflt (refine len_memL (by k_asm) (by repeat (first | assumption | exact .head _ | refine .tail _ ?_)) (by first | lia | (simp only [List.size_toArray]; lia)) ?_))) | ((k_here; (with_reducible show wpAny _ _ (eval (Expr.Name _ _) (envOf _ _ _ _ _)) _ _ _); k_dflt (refine nameX_L (by k_asm) (by with_reducible assumption) ?_))) | ((with_reducible show PyProof.Rows.LCg.CompEnd _ _ _ _ _ _ _ _ _ _ _ _ _ _); k_dflt (first | refine cend0 (by assumption) (by assumption) (by ktn_open) (by lcg_src) ?_ | refine cend1 (by assumption) (by assumption) (by ktn_open) (by dsimp only; first | exact off9 | lia) (by lcg_src) ?_ | refine cend2 (by assumption) (by assumption) (by ktn_open) (by dsimp only; first | exact off9 | lia) (by dsimp only; first | exact off9 | lia) (by lcg_src) ?_)) | ((with_reducible show UnrEnd _ _ _ _ _ _ _); k_dflt (refine UnrEnd.intro (by assumption) (by assumption) _ (fun p hp => hp) (by first | exact off_lt (by assumption) | exact off_ltA (by assumption)) ?_)) | ((k_here; (with_reducible show wpAny _ _ (subscriptTail _ _ (Value.ref _) (Value.int _ _)) _ _ _); k_dflt (first | (refine' item_mem0 (by k_asm) (by k_mem) (by lia) ?_ (by with_unfolding_all rfl); k_whole) | (refine' item_mem1 (by k_asm) (by k_mem) (by lia) ?_ (by with_unfolding_all rfl); k_whole) | (refine' item_mem2 (by k_asm) (by k_mem) (by lia) ?_ (by with_unfolding_all rfl); k_whole)))) | ((with_reducible show KasNext _ _ _ _ _); k_dflt (first | refine kas_nextD (b' := false) (by first | rfl | (simp only [decide_eq_false_iff_not]; lia)) ?_ | refine kas_nextD (b' := true) (by first | rfl | (simp only [decide_eq_true_eq]; lia)) ?_); kas_known) | ((with_reducible show KatGo _ _ _ _ _ _ _ _ _ _ _ _); k_dflt (first | refine kat_goD (e' := false) (by simp only [beq_eq_false_iff_ne, ne_eq]; lia) ?_ | refine kat_goD (e' := true) (by simp only [beq_iff_eq]; lia) ?_)) | ((k_here; (with_reducible show wpAny _ _ (call (Value.builtin _) [Value.ref _]) _ _ _); k_dflt ((with_reducible rename News _ _ _ _ => nS'); (try simp only [List.push_toArray, List.cons_append, List.nil_append] at nS'); (first | ((with_unfolding_all refine' kat_sorted (by k_asm) nS' (isl nS' (by k_mem)) (by exact Nat.le_of_ble_eq_true rfl) (by exact Nat.le_of_ble_eq_true rfl) ?_; k_whole); intro D' e' h' F' N' l1; (try k_lt l1); kat_kinds) | ((refine' sorted_one (by k_asm) nS' (isl nS' (by k_mem)) ?_; k_whole); intro D' c' h' F' N' l1; (try k_lt l1); (try dsimp only)))))) | (k_unfold; (try dsimp only)) | (k_unmd; k_unfold; (try dsimp only)) | (k_end; wrow_close) | walk1 | (dsimp only; walk1) | (leave1; walk_say "STEP leave1"; try dsimp only) | fail "no step"))
  all_goals exact hret _ _ _ (by assumption) (cb_drop (by assumption) (by (intro p hp; repeat (first | exact hp | apply List.mem_cons_of_mem))))
set_option maxRecDepth 100000 in
set_option maxHeartbeats 8000000 in
theorem naB2a {D : Addr} {bn bh : Int} {tb th : Tok} {news : List (Addr × Obj)} {t1 : Addr} {b1 e1 w1 : Int} {x1 y1 z1 : Tok} {t2 : Addr} {b2 e2 w2 : Int} {x2 y2 z2 : Tok}
  (B : Below A₀ base outer h₀) (F : Fr h₀ L s.heap m) (X : (Mine.hd.heap_39 w.params).In h₀) (N : News h₀ L s.heap ((D, PyProof.Rows.LCg.lst [.ref t1, .ref t2]) :: (t2, tupI b2 e2 w2 x2 y2 z2) :: (t1, tupI b1 e1 w1 x1 y1 z1) :: news)) (T : Top Mine.hd.view_39 (looseW Mine.hd.view_39 [Str.ofString "ShapeError", Str.ofString "VERSIONS"]) mean mg mb h₀)
  (hd : dp + 3 < recursionLimit) (hu : un + 24 < cLine) (hl : m (Str.ofString "line") = some (.ref D)) (hb : m (Str.ofString "begun") = some (.int bn tb)) (he : m (Str.ofString "behind") = some (.int bh th)) (off : t2 ≠ D ∧ t1 ≠ D ∧ PyProof.Rows.LCg.Off1 D news) (hbb : bn < bh) (hlt : b1 < e1) (hl2 : b2 < e2) (h12 : e1 = b2) (hp : e2 ≤ bn) (hE : PassesOwn (model PySem.Challenge.rw_pb0178_01.row.prog w) (ktrTop dp un gd naN naSc L 239 (.ref 238) [] outer) (envOf naN naSc L 239 (.ref 238)) E)
  (hret : ∀ h' tk' m', Fr h₀ L h' m' → News h₀ L h' news → Q .next { s with heap := h', toks := tk' }) :
  wpAny (model PySem.Challenge.rw_pb0178_01.row.prog w) (ktrTop dp un gd naN naSc L 239 (.ref 238) [] outer) (execs (naD.1.drop 1) (envOf naN naSc L 239 (.ref 238))) Q E s := by
  with_unfolding_all (show wpAny _ _ (execs (Stmt.Expr _ _ :: _) _) _ _ _)
  (repeat' (first | (with_reducible ((with_reducible show wpAny _ _ (exec (Stmt.For (Expr.Name _ _) (Expr.Call _ _ _ _) _ _ _) _) _ _ _); (k_here; (rename Fr _ _ _ _ => lF'); (with_unfolding_all refine' For_invVF lF' (by exact rfl) (by exact rfl) ?_; k_whole)))) | ((k_here; (with_reducible show wpAny _ _ (call (Value.builtin "len") [Value.ref _]) _ _ _); k_dflt (refine len_memL (by k_asm) (by repeat (first | assumption | exact .head _ | refine .tail _ ?_)) (by first | lia | (simp only [List.size_toArray]; lia)) ?_))) | ((k_here; (with_reducible show wpAny _ _ (eval (Expr.Name _ _) (envOf _ _ _ _ _)) _ _ _); k_dflt (refine nameX_L (by k_asm) (by with_reducible assumption) ?_))) | ((with_reducible show PyProof.Rows.LCg.CompEnd _ _ _ _ _ _ _ _ _ _ _ _ _ _); k_dflt (first | refine cend0 (by assumption) (by assumption) (by ktn_open) (by lcg_src) ?_ | refine cend1 (by assumption) (by assumption) (by ktn_open) (by dsimp only; first | exact off9 | lia) (by lcg_src) ?_ | refine cend2 (by assumption) (by assumption) (by ktn_open) (by dsimp only; first | exact off9 | lia) (by dsimp only; first | exact off9 | lia) (by lcg_src) ?_)) | ((with_reducible show UnrEnd _ _ _ _ _ _ _); k_dflt (refine UnrEnd.intro (by assumption) (by assumption) _ (fun p hp => hp) (by first | exact off_lt (by assumption) | exact off_ltA (by assumption)) ?_)) | ((k_here; (with_reducible show wpAny _ _ (subscriptTail _ _ (Value.ref _) (Value.int _ _)) _ _ _); k_dflt (first | (refine' item_mem0 (by k_asm) (by k_mem) (by lia) ?_ (by with_unfolding_all rfl); k_whole) | (refine' item_mem1 (by k_asm) (by k_mem) (by lia) ?_ (by with_unfolding_all rfl); k_whole) | (refine' item_mem2 (by k_asm) (by k_mem) (by lia) ?_ (by with_unfolding_all rfl); k_whole)))) | ((with_reducible show KasNext _ _ _ _ _); k_dflt (first | refine kas_nextD (b' := false) (by first | rfl | (simp only [decide_eq_false_iff_not]; lia)) ?_ | refine kas_nextD (b' := true) (by first | rfl | (simp only [decide_eq_true_eq]; lia)) ?_); kas_known) | ((with_reducible show KatGo _ _ _ _ _ _ _ _ _ _ _ _); k_dflt (first | refine kat_goD (e' := false) (by simp only [beq_eq_false_iff_ne, ne_eq]; lia) ?_ | refine kat_goD (e' := true) (by simp only [beq_iff_eq]; lia) ?_)) | ((k_here; (with_reducible show wpAny _ _ (call (Value.builtin _) [Value.ref _]) _ _ _); k_dflt ((with_reducible rename News _ _ _ _ => nS'); (try simp only [List.push_toArray, List.cons_append, List.nil_append] at nS'); (first | ((with_unfolding_all refine' kat_sorted (by k_asm) nS' (isl nS' (by k_mem)) (by exact Nat.le_of_ble_eq_true rfl) (by exact Nat.le_of_ble_eq_true rfl) ?_; k_whole); intro D' e' h' F' N' l1; (try k_lt l1); kat_kinds) | ((refine' sorted_one (by k_asm) nS' (isl nS' (by k_mem)) ?_; k_whole); intro D' c' h' F' N' l1; (try k_lt l1); (try dsimp only)))))) | (k_unfold; (try dsimp only)) | (k_unmd; k_unfold; (try dsimp only)) | (k_end; wrow_close) | walk1 | (dsimp only; walk1) | (leave1; walk_say "STEP leave1"; try dsimp only) | fail "no step"))
  all_goals exact hret _ _ _ (by assumption) (cb_drop (by assumption) (by (intro p hp; repeat (first | exact hp | apply List.mem_cons_of_mem))))
set_option maxRecDepth 100000 in
set_option maxHeartbeats 8000000 in
theorem naB2b {D : Addr} {bn bh : Int} {tb th : Tok} {news : List (Addr × Obj)} {t1 : Addr} {b1 e1 w1 : Int} {x1 y1 z1 : Tok} {t2 : Addr} {b2 e2 w2 : Int} {x2 y2 z2 : Tok}
  (B : Below A₀ base outer h₀) (F : Fr h₀ L s.heap m) (X : (Mine.hd.heap_39 w.params).In h₀) (N : News h₀ L s.heap ((D, PyProof.Rows.LCg.lst [.ref t1, .ref t2]) :: (t2, tupI b2 e2 w2 x2 y2 z2) :: (t1, tupI b1 e1 w1 x1 y1 z1) :: news)) (T : Top Mine.hd.view_39 (looseW Mine.hd.view_39 [Str.ofString "ShapeError", Str.ofString "VERSIONS"]) mean mg mb h₀)
  (hd : dp + 3 < recursionLimit) (hu : un + 24 < cLine) (hl : m (Str.ofString "line") = some (.ref D)) (hb : m (Str.ofString "begun") = some (.int bn tb)) (he : m (Str.ofString "behind") = some (.int bh th)) (off : t2 ≠ D ∧ t1 ≠ D ∧ PyProof.Rows.LCg.Off1 D news) (hbb : bn < bh) (hlt : b1 < e1) (hl2 : b2 < e2) (h12 : e1 = b2) (hp : bh ≤ b1) (hE : PassesOwn (model PySem.Challenge.rw_pb0178_01.row.prog w) (ktrTop dp un gd naN naSc L 239 (.ref 238) [] outer) (envOf naN naSc L 239 (.ref 238)) E)
  (hret : ∀ h' tk' m', Fr h₀ L h' m' → News h₀ L h' news → Q .next { s with heap := h', toks := tk' }) :
  wpAny (model PySem.Challenge.rw_pb0178_01.row.prog w) (ktrTop dp un gd naN naSc L 239 (.ref 238) [] outer) (execs (naD.1.drop 1) (envOf naN naSc L 239 (.ref 238))) Q E s := by
  with_unfolding_all (show wpAny _ _ (execs (Stmt.Expr _ _ :: _) _) _ _ _)
  (repeat' (first | (with_reducible ((with_reducible show wpAny _ _ (exec (Stmt.For (Expr.Name _ _) (Expr.Call _ _ _ _) _ _ _) _) _ _ _); (k_here; (rename Fr _ _ _ _ => lF'); (with_unfolding_all refine' For_invVF lF' (by exact rfl) (by exact rfl) ?_; k_whole)))) | ((k_here; (with_reducible show wpAny _ _ (call (Value.builtin "len") [Value.ref _]) _ _ _); k_dflt (refine len_memL (by k_asm) (by repeat (first | assumption | exact .head _ | refine .tail _ ?_)) (by first | lia | (simp only [List.size_toArray]; lia)) ?_))) | ((k_here; (with_reducible show wpAny _ _ (eval (Expr.Name _ _) (envOf _ _ _ _ _)) _ _ _); k_dflt (refine nameX_L (by k_asm) (by with_reducible assumption) ?_))) | ((with_reducible show PyProof.Rows.LCg.CompEnd _ _ _ _ _ _ _ _ _ _ _ _ _ _); k_dflt (first | refine cend0 (by assumption) (by assumption) (by ktn_open) (by lcg_src) ?_ | refine cend1 (by assumption) (by assumption) (by ktn_open) (by dsimp only; first | exact off9 | lia) (by lcg_src) ?_ | refine cend2 (by assumption) (by assumption) (by ktn_open) (by dsimp only; first | exact off9 | lia) (by dsimp only; first | exact off9 | lia) (by lcg_src) ?_)) | ((with_reducible show UnrEnd _ _ _ _ _ _ _); k_dflt (refine UnrEnd.intro (by assumption) (by assumption) _ (fun p hp => hp) (by first | exact off_lt (by assumption) | exact off_ltA (by assumption)) ?_)) | ((k_here; (with_reducible show wpAny _ _ (subscriptTail _ _ (Value.ref _) (Value.int _ _)) _ _ _); k_dflt (first | (refine' item_mem0 (by k_asm) (by k_mem) (by lia) ?_ (by with_unfolding_all rfl); k_whole) | (refine' item_mem1 (by k_asm) (by k_mem) (by lia) ?_ (by with_unfolding_all rfl); k_whole) | (refine' item_mem2 (by k_asm) (by k_mem) (by lia) ?_ (by with_unfolding_all rfl); k_whole)))) | ((with_reducible show KasNext _ _ _ _ _); k_dflt (first | refine kas_nextD (b' := false) (by first | rfl | (simp only [decide_eq_false_iff_not]; lia)) ?_ | refine kas_nextD (b' := true) (by first | rfl | (simp only [decide_eq_true_eq]; lia)) ?_); kas_known) | ((with_reducible show KatGo _ _ _ _ _ _ _ _ _ _ _ _); k_dflt (first | refine kat_goD (e' := false) (by simp only [beq_eq_false_iff_ne, ne_eq]; lia) ?_ | refine kat_goD (e' := true) (by simp only [beq_iff_eq]; lia) ?_)) | ((k_here; (with_reducible show wpAny _ _ (call (Value.builtin _) [Value.ref _]) _ _ _); k_dflt ((with_reducible rename News _ _ _ _ => nS'); (try simp only [List.push_toArray, List.cons_append, List.nil_append] at nS'); (first | ((with_unfolding_all refine' kat_sorted (by k_asm) nS' (isl nS' (by k_mem)) (by exact Nat.le_of_ble_eq_true rfl) (by exact Nat.le_of_ble_eq_true rfl) ?_; k_whole); intro D' e' h' F' N' l1; (try k_lt l1); kat_kinds) | ((refine' sorted_one (by k_asm) nS' (isl nS' (by k_mem)) ?_; k_whole); intro D' c' h' F' N' l1; (try k_lt l1); (try dsimp only)))))) | (k_unfold; (try dsimp only)) | (k_unmd; k_unfold; (try dsimp only)) | (k_end; wrow_close) | walk1 | (dsimp only; walk1) | (leave1; walk_say "STEP leave1"; try dsimp only) | fail "no step"))
  all_goals exact hret _ _ _ (by assumption) (cb_drop (by assumption) (by (intro p hp; repeat (first | exact hp | apply List.mem_cons_of_mem))))
end
end
section
theorem part9 : True := by
  w_top off
  trivial
section
variable {w : World} {mean : ExcName → Option Value} {mg mb : Str → Option Value} {dp un : Nat} {gd : Option (List Code)} {cn : Str} {cs : Scope} {a : Addr} {ccd : Value} {cl : List (Str × Addr)} {outer : List Env} {A₀ : Around} {base h₀ : Heap} {L : Addr} {m : Str → Option Value} {s : Shared} {Q E : Value → Shared → Prop}
set_option maxRecDepth 100000 in
set_option maxHeartbeats 8000000 in
theorem na1_c {rl : Addr} {n : Nat} {bn bh : Int} {tb th : Tok} {news : List (Addr × Obj)} {z1 dz1 : Addr} {bg1 ln1 wh1 y1 : Int} {a1 b1 c1 e1 f1 g1 o1 p1 q1 r1 : Tok}
  (B : Below A₀ base outer h₀) (F : Fr h₀ L s.heap m) (X : (Mine.hd.heap_39 w.params).In h₀) (N : News h₀ L s.heap (news)) (T : Top Mine.hd.view_39 (looseW Mine.hd.view_39 [Str.ofString "ShapeError", Str.ofString "VERSIONS"]) mean mg mb h₀) (hk : cs.kind = .function)
  (ml : (rl, listOf #[.ref z1] n) ∈ news) (m1a : (z1, instObj 209 dz1) ∈ news) (m1b : (dz1, dictOf [⟨PyData.keyHash w.params (Str.ofString "tag"), .str (Str.ofString "tag") a1, .str (Str.ofString "cmap") b1⟩, ⟨PyData.keyHash w.params (Str.ofString "total"), .str (Str.ofString "total") c1, .int y1 e1⟩, ⟨PyData.keyHash w.params (Str.ofString "begin"), .str (Str.ofString "begin") f1, .int bg1 g1⟩, ⟨PyData.keyHash w.params (Str.ofString "length"), .str (Str.ofString "length") o1, .int ln1 p1⟩, ⟨PyData.keyHash w.params (Str.ofString "where"), .str (Str.ofString "where") q1, .int wh1 r1⟩] 5) ∈ news) (hl1 : 0 ≤ ln1) (hbb : bn < bh) (hpos : ln1 = 0 ∨ (0 < ln1 ∧ bg1 + ln1 ≤ bn) ∨ (0 < ln1 ∧ bh ≤ bg1))
  (hd : dp + 4 < recursionLimit) (hu : un + 32 < cLine)
  (hret : ∀ h' tk', Fr h₀ L h' m → News h₀ L h' news → Q .none { s with heap := h', toks := tk' }) :
  wpAny (model PySem.Challenge.rw_pb0178_01.row.prog w) (ktrTop dp un gd cn cs L a ccd cl outer) (call (.ref 239) [.ref rl, .int bn tb, .int bh th]) Q E s := by
  have hc1 : ln1 = 0 ∨ 0 < ln1 := by lia
  rcases hc1 with hz1 | hz1
  · refine wpAny_call ?_
    k_dflt cell_enter
    repeat' (first | ((fail_if_success (with_reducible show wpAny _ _ (execs (Stmt.Expr _ _ :: _) _) _ _ _)); (first | ((with_reducible show PyProof.Rows.LCg.CompEnd _ _ _ _ _ _ _ _ _ _ _ _ _ _); k_dflt (first | refine cend0 (by assumption) (by assumption) (by ktn_open) (by lcg_src) ?_ | refine cend1 (by assumption) (by assumption) (by ktn_open) (by dsimp only; first | exact off9 | lia) (by lcg_src) ?_ | refine cend2 (by assumption) (by assumption) (by ktn_open) (by dsimp only; first | exact off9 | lia) (by dsimp only; first | exact off9 | lia) (by lcg_src) ?_)) | ((with_reducible show UnrEnd _ _ _ _ _ _ _); k_dflt (refine UnrEnd.intro (by assumption) (by assumption) _ (fun p hp => hp) (by first | exact off_lt (by assumption) | exact off_ltA (by assumption)) ?_)) | ((k_here; (with_reducible show wpAny _ _ (subscriptTail _ _ (Value.ref _) (Value.int _ _)) _ _ _); k_dflt (first | (refine' item_mem0 (by k_asm) (by k_mem) (by lia) ?_ (by with_unfolding_all rfl); k_whole) | (refine' item_mem1 (by k_asm) (by k_mem) (by lia) ?_ (by with_unfolding_all rfl); k_whole) | (refine' item_mem2 (by k_asm) (by k_mem) (by lia) ?_ (by with_unfolding_all rfl); k_whole)))) | ((with_reducible show KasNext _ _ _ _ _); k_dflt (first | refine kas_nextD (b' := false) (by first | rfl | (simp only [decide_eq_false_iff_not]; lia)) ?_ | refine kas_nextD (b' := true) (by first | rfl | (simp only [decide_eq_true_eq]; lia)) ?_); kas_known) | ((with_reducible show KatGo _ _ _ _ _ _ _ _ _ _ _ _); k_dflt (first | refine kat_goD (e' := false) (by simp only [beq_eq_false_iff_ne, ne_eq]; lia) ?_ | refine kat_goD (e' := true) (by simp only [beq_iff_eq]; lia) ?_)) | ((k_here; (with_reducible show wpAny _ _ (call (Value.builtin _) [Value.ref _]) _ _ _); k_dflt ((with_reducible rename News _ _ _ _ => nS'); (try simp only [List.push_toArray, List.cons_append, List.nil_append] at nS'); (first | ((with_unfolding_all refine' kat_sorted (by k_asm) nS' (isl nS' (by k_mem)) (by exact Nat.le_of_ble_eq_true rfl) (by exact Nat.le_of_ble_eq_true rfl) ?_; k_whole); intro D' e' h' F' N' l1; (try k_lt l1); kat_kinds) | ((refine' sorted_one (by k_asm) nS' (isl nS' (by k_mem)) ?_; k_whole); intro D' c' h' F' N' l1; (try k_lt l1); (try dsimp only)))))) | (k_unfold; (try dsimp only)) | (k_end; wrow_close) | walk1 | (dsimp only; walk1))))
    with_unfolding_all refine' naB0 (by k_asm) (by k_asm) (by k_asm) (by k_asm) (by k_asm) (by ktr_room) (by ktr_units) (by rfl) (by rfl) (by rfl) (by assumption) (by lia)  (by passes_own) ?_
    intro h9 tk9 m9 F9 N9
    (repeat' (first | ((with_reducible show PyProof.Rows.LCg.CompEnd _ _ _ _ _ _ _ _ _ _ _ _ _ _); k_dflt (first | refine cend0 (by assumption) (by assumption) (by ktn_open) (by lcg_src) ?_ | refine cend1 (by assumption) (by assumption) (by ktn_open) (by dsimp only; first | exact off9 | lia) (by lcg_src) ?_ | refine cend2 (by assumption) (by assumption) (by ktn_open) (by dsimp only; first | exact off9 | lia) (by dsimp only; first | exact off9 | lia) (by lcg_src) ?_)) | ((with_reducible show UnrEnd _ _ _ _ _ _ _); k_dflt (refine UnrEnd.intro (by assumption) (by assumption) _ (fun p hp => hp) (by first | exact off_lt (by assumption) | exact off_ltA (by assumption)) ?_)) | ((k_here; (with_reducible show wpAny _ _ (subscriptTail _ _ (Value.ref _) (Value.int _ _)) _ _ _); k_dflt (first | (refine' item_mem0 (by k_asm) (by k_mem) (by lia) ?_ (by with_unfolding_all rfl); k_whole) | (refine' item_mem1 (by k_asm) (by k_mem) (by lia) ?_ (by with_unfolding_all rfl); k_whole) | (refine' item_mem2 (by k_asm) (by k_mem) (by lia) ?_ (by with_unfolding_all rfl); k_whole)))) | ((with_reducible show KasNext _ _ _ _ _); k_dflt (first | refine kas_nextD (b' := false) (by first | rfl | (simp only [decide_eq_false_iff_not]; lia)) ?_ | refine kas_nextD (b' := true) (by first | rfl | (simp only [decide_eq_true_eq]; lia)) ?_); kas_known) | ((with_reducible show KatGo _ _ _ _ _ _ _ _ _ _ _ _); k_dflt (first | refine kat_goD (e' := false) (by simp only [beq_eq_false_iff_ne, ne_eq]; lia) ?_ | refine kat_goD (e' := true) (by simp only [beq_iff_eq]; lia) ?_)) | ((k_here; (with_reducible show wpAny _ _ (call (Value.builtin _) [Value.ref _]) _ _ _); k_dflt ((with_reducible rename News _ _ _ _ => nS'); (try simp only [List.push_toArray, List.cons_append, List.nil_append] at nS'); (first | ((with_unfolding_all refine' kat_sorted (by k_asm) nS' (isl nS' (by k_mem)) (by exact Nat.le_of_ble_eq_true rfl) (by exact Nat.le_of_ble_eq_true rfl) ?_; k_whole); intro D' e' h' F' N' l1; (try k_lt l1); kat_kinds) | ((refine' sorted_one (by k_asm) nS' (isl nS' (by k_mem)) ?_; k_whole); intro D' c' h' F' N' l1; (try k_lt l1); (try dsimp only)))))) | (k_unfold; (try dsimp only)) | (k_unmd; k_unfold; (try dsimp only)) | (k_end; wrow_close) | walk1 | (dsimp only; walk1) | (leave1; walk_say "STEP leave1"; try dsimp only) | fail "no step"))
    exact hret _ _ (by assumption) (cb_drop (by assumption) (by (intro p hp; repeat (first | exact hp | apply List.mem_cons_of_mem))))
  · refine wpAny_call ?_
    k_dflt cell_enter
    repeat' (first | ((fail_if_success (with_reducible show wpAny _ _ (execs (Stmt.Expr _ _ :: _) _) _ _ _)); (first | ((with_reducible show PyProof.Rows.LCg.CompEnd _ _ _ _ _ _ _ _ _ _ _ _ _ _); k_dflt (first | refine cend0 (by assumption) (by assumption) (by ktn_open) (by lcg_src) ?_ | refine cend1 (by assumption) (by assumption) (by ktn_open) (by dsimp only; first | exact off9 | lia) (by lcg_src) ?_ | refine cend2 (by assumption) (by assumption) (by ktn_open) (by dsimp only; first | exact off9 | lia) (by dsimp only; first | exact off9 | lia) (by lcg_src) ?_)) | ((with_reducible show UnrEnd _ _ _ _ _ _ _); k_dflt (refine UnrEnd.intro (by assumption) (by assumption) _ (fun p hp => hp) (by first | exact off_lt (by assumption) | exact off_ltA (by assumption)) ?_)) | ((k_here; (with_reducible show wpAny _ _ (subscriptTail _ _ (Value.ref _) (Value.int _ _)) _ _ _); k_dflt (first | (refine' item_mem0 (by k_asm) (by k_mem) (by lia) ?_ (by with_unfolding_all rfl); k_whole) | (refine' item_mem1 (by k_asm) (by k_mem) (by lia) ?_ (by with_unfolding_all rfl); k_whole) | (refine' item_mem2 (by k_asm) (by k_mem) (by lia) ?_ (by with_unfolding_all rfl); k_whole)))) | ((with_reducible show KasNext _ _ _ _ _); k_dflt (first | refine kas_nextD (b' := false) (by first | rfl | (simp only [decide_eq_false_iff_not]; lia)) ?_ | refine kas_nextD (b' := true) (by first | rfl | (simp only [decide_eq_true_eq]; lia)) ?_); kas_known) | ((with_reducible show KatGo _ _ _ _ _ _ _ _ _ _ _ _); k_dflt (first | refine kat_goD (e' := false) (by simp only [beq_eq_false_iff_ne, ne_eq]; lia) ?_ | refine kat_goD (e' := true) (by simp only [beq_iff_eq]; lia) ?_)) | ((k_here; (with_reducible show wpAny _ _ (call (Value.builtin _) [Value.ref _]) _ _ _); k_dflt ((with_reducible rename News _ _ _ _ => nS'); (try simp only [List.push_toArray, List.cons_append, List.nil_append] at nS'); (first | ((with_unfolding_all refine' kat_sorted (by k_asm) nS' (isl nS' (by k_mem)) (by exact Nat.le_of_ble_eq_true rfl) (by exact Nat.le_of_ble_eq_true rfl) ?_; k_whole); intro D' e' h' F' N' l1; (try k_lt l1); kat_kinds) | ((refine' sorted_one (by k_asm) nS' (isl nS' (by k_mem)) ?_; k_whole); intro D' c' h' F' N' l1; (try k_lt l1); (try dsimp only)))))) | (k_unfold; (try dsimp only)) | (k_end; wrow_close) | walk1 | (dsimp only; walk1))))
    rcases (by lia : bg1 + ln1 ≤ bn ∨ bh ≤ bg1) with hp | hp
    · with_unfolding_all refine' naB1a (by k_asm) (by k_asm) (by k_asm) (by k_asm) (by k_asm) (by ktr_room) (by ktr_units) (by rfl) (by rfl) (by rfl) (by assumption) (by lia) (by lia) (by lia) (by passes_own) ?_
      intro h9 tk9 m9 F9 N9
      (repeat' (first | ((with_reducible show PyProof.Rows.LCg.CompEnd _ _ _ _ _ _ _ _ _ _ _ _ _ _); k_dflt (first | refine cend0 (by assumption) (by assumption) (by ktn_open) (by lcg_src) ?_ | refine cend1 (by assumption) (by assumption) (by ktn_open) (by dsimp only; first | exact off9 | lia) (by lcg_src) ?_ | refine cend2 (by assumption) (by assumption) (by ktn_open) (by dsimp only; first | exact off9 | lia) (by dsimp only; first | exact off9 | lia) (by lcg_src) ?_)) | ((with_reducible show UnrEnd _ _ _ _ _ _ _); k_dflt (refine UnrEnd.intro (by assumption) (by assumption) _ (fun p hp => hp) (by first | exact off_lt (by assumption) | exact off_ltA (by assumption)) ?_)) | ((k_here; (with_reducible show wpAny _ _ (subscriptTail _ _ (Value.ref _) (Value.int _ _)) _ _ _); k_dflt (first | (refine' item_mem0 (by k_asm) (by k_mem) (by lia) ?_ (by with_unfolding_all rfl); k_whole) | (refine' item_mem1 (by k_asm) (by k_mem) (by lia) ?_ (by with_unfolding_all rfl); k_whole) | (refine' item_mem2 (by k_asm) (by k_mem) (by lia) ?_ (by with_unfolding_all rfl); k_whole)))) | ((with_reducible show KasNext _ _ _ _ _); k_dflt (first | refine kas_nextD (b' := false) (by first | rfl | (simp only [decide_eq_false_iff_not]; lia)) ?_ | refine kas_nextD (b' := true) (by first | rfl | (simp only [decide_eq_true_eq]; lia)) ?_); kas_known) | ((with_reducible show KatGo _ _ _ _ _ _ _ _ _ _ _ _); k_dflt (first | refine kat_goD (e' := false) (by simp only [beq_eq_false_iff_ne, ne_eq]; lia) ?_ | refine kat_goD (e' := true) (by simp only [beq_iff_eq]; lia) ?_)) | ((k_here; (with_reducible show wpAny _ _ (call (Value.builtin _) [Value.ref _]) _ _ _); k_dflt ((with_reducible rename News _ _ _ _ => nS'); (try simp only [List.push_toArray, List.cons_append, List.nil_append] at nS'); (first | ((with_unfolding_all refine' kat_sorted (by k_asm) nS' (isl nS' (by k_mem)) (by exact Nat.le_of_ble_eq_true rfl) (by exact Nat.le_of_ble_eq_true rfl) ?_; k_whole); intro D' e' h' F' N' l1; (try k_lt l1); kat_kinds) | ((refine' sorted_one (by k_asm) nS' (isl nS' (by k_mem)) ?_; k_whole); intro D' c' h' F' N' l1; (try k_lt l1); (try dsimp only)))))) | (k_unfold; (try dsimp only)) | (k_unmd; k_unfold; (try dsimp only)) | (k_end; wrow_close) | walk1 | (dsimp only; walk1) | (leave1; walk_say "STEP leave1"; try dsimp only) | fail "no step"))
      exact hret _ _ (by assumption) (cb_drop (by assumption) (by (intro p hp; repeat (first | exact hp | apply List.mem_cons_of_mem))))
    · with_unfolding_all refine' naB1b (by k_asm) (by k_asm) (by k_asm) (by k_asm) (by k_asm) (by ktr_room) (by ktr_units) (by rfl) (by rfl) (by rfl) (by assumption) (by lia) (by lia) (by lia) (by passes_own) ?_
      intro h9 tk9 m9 F9 N9
      (repeat' (first | ((with_reducible show PyProof.Rows.LCg.CompEnd _ _ _ _ _ _ _ _ _ _ _ _ _ _); k_dflt (first | refine cend0 (by assumption) (by assumption) (by ktn_open) (by lcg_src) ?_ | refine cend1 (by assumption) (by assumption) (by ktn_open) (by dsimp only; first | exact off9 | lia) (by lcg_src) ?_ | refine cend2 (by assumption) (by assumption) (by ktn_open) (by dsimp only; first | exact off9 | lia) (by dsimp only; first | exact off9 | lia) (by lcg_src) ?_)) | ((with_reducible show UnrEnd _ _ _ _ _ _ _); k_dflt (refine UnrEnd.intro (by assumption) (by assumption) _ (fun p hp => hp) (by first | exact off_lt (by assumption) | exact off_ltA (by assumption)) ?_)) | ((k_here; (with_reducible show wpAny _ _ (subscriptTail _ _ (Value.ref _) (Value.int _ _)) _ _ _); k_dflt (first | (refine' item_mem0 (by k_asm) (by k_mem) (by lia) ?_ (by with_unfolding_all rfl); k_whole) | (refine' item_mem1 (by k_asm) (by k_mem) (by lia) ?_ (by with_unfolding_all rfl); k_whole) | (refine' item_mem2 (by k_asm) (by k_mem) (by lia) ?_ (by with_unfolding_all rfl); k_whole)))) | ((with_reducible show KasNext _ _ _ _ _); k_dflt (first | refine kas_nextD (b' := false) (by first | rfl | (simp only [decide_eq_false_iff_not]; lia)) ?_ | refine kas_nextD (b' := true) (by first | rfl | (simp only [decide_eq_true_eq]; lia)) ?_); kas_known) | ((with_reducible show KatGo _ _ _ _ _ _ _ _ _ _ _ _); k_dflt (first | refine kat_goD (e' := false) (by simp only [beq_eq_false_iff_ne, ne_eq]; lia) ?_ | refine kat_goD (e' := true) (by simp only [beq_iff_eq]; lia) ?_)) | ((k_here; (with_reducible show wpAny _ _ (call (Value.builtin _) [Value.ref _]) _ _ _); k_dflt ((with_reducible rename News _ _ _ _ => nS'); (try simp only [List.push_toArray, List.cons_append, List.nil_append] at nS'); (first | ((with_unfolding_all refine' kat_sorted (by k_asm) nS' (isl nS' (by k_mem)) (by exact Nat.le_of_ble_eq_true rfl) (by exact Nat.le_of_ble_eq_true rfl) ?_; k_whole); intro D' e' h' F' N' l1; (try k_lt l1); kat_kinds) | ((refine' sorted_one (by k_asm) nS' (isl nS' (by k_mem)) ?_; k_whole); intro D' c' h' F' N' l1; (try k_lt l1); (try dsimp only)))))) | (k_unfold; (try dsimp only)) | (k_unmd; k_unfold; (try dsimp only)) | (k_end; wrow_close) | walk1 | (dsimp only; walk1) | (leave1; walk_say "STEP leave1"; try dsimp only) | fail "no step"))
      exact hret _ _ (by assumption) (cb_drop (by assumption) (by (intro p hp; repeat (first | exact hp | apply List.mem_cons_of_mem))))
set_option maxRecDepth 100000 in
set_option maxHeartbeats 8000000 in
theorem na2_c {rl : Addr} {n : Nat} {bn bh : Int} {tb th : Tok} {news : List (Addr × Obj)} {z1 dz1 : Addr} {bg1 ln1 wh1 y1 : Int} {a1 b1 c1 e1 f1 g1 o1 p1 q1 r1 : Tok} {z2 dz2 : Addr} {bg2 ln2 wh2 y2 : Int} {a2 b2 c2 e2 f2 g2 o2 p2 q2 r2 : Tok}
  (B : Below A₀ base outer h₀) (F : Fr h₀ L s.heap m) (X : (Mine.hd.heap_39 w.params).In h₀) (N : News h₀ L s.heap (news)) (T : Top Mine.hd.view_39 (looseW Mine.hd.view_39 [Str.ofString "ShapeError", Str.ofString "VERSIONS"]) mean mg mb h₀) (hk : cs.kind = .function)
  (ml : (rl, listOf #[.ref z1, .ref z2] n) ∈ news) (m1a : (z1, instObj 209 dz1) ∈ news) (m1b : (dz1, dictOf [⟨PyData.keyHash w.params (Str.ofString "tag"), .str (Str.ofString "tag") a1, .str (Str.ofString "cmap") b1⟩, ⟨PyData.keyHash w.params (Str.ofString "total"), .str (Str.ofString "total") c1, .int y1 e1⟩, ⟨PyData.keyHash w.params (Str.ofString "begin"), .str (Str.ofString "begin") f1, .int bg1 g1⟩, ⟨PyData.keyHash w.params (Str.ofString "length"), .str (Str.ofString "length") o1, .int ln1 p1⟩, ⟨PyData.keyHash w.params (Str.ofString "where"), .str (Str.ofString "where") q1, .int wh1 r1⟩] 5) ∈ news) (m2a : (z2, instObj 209 dz2) ∈ news) (m2b : (dz2, dictOf [⟨PyData.keyHash w.params (Str.ofString "tag"), .str (Str.ofString "tag") a2, .str (Str.ofString "post") b2⟩, ⟨PyData.keyHash w.params (Str.ofString "total"), .str (Str.ofString "total") c2, .int y2 e2⟩, ⟨PyData.keyHash w.params (Str.ofString "begin"), .str (Str.ofString "begin") f2, .int bg2 g2⟩, ⟨PyData.keyHash w.params (Str.ofString "length"), .str (Str.ofString "length") o2, .int ln2 p2⟩, ⟨PyData.keyHash w.params (Str.ofString "where"), .str (Str.ofString "where") q2, .int wh2 r2⟩] 5) ∈ news) (hl1 : 0 ≤ ln1) (hl2 : 0 ≤ ln2) (hbb : bn < bh) (h12 : bg1 + ln1 = bg2) (hpos : bg2 + ln2 ≤ bn ∨ bh ≤ bg1)
  (hd : dp + 4 < recursionLimit) (hu : un + 32 < cLine)
  (hret : ∀ h' tk', Fr h₀ L h' m → News h₀ L h' news → Q .none { s with heap := h', toks := tk' }) :
  wpAny (model PySem.Challenge.rw_pb0178_01.row.prog w) (ktrTop dp un gd cn cs L a ccd cl outer) (call (.ref 239) [.ref rl, .int bn tb, .int bh th]) Q E s := by
  have hc1 : ln1 = 0 ∨ 0 < ln1 := by lia
  have hc2 : ln2 = 0 ∨ 0 < ln2 := by lia
  rcases hc1 with hz1 | hz1 <;> rcases hc2 with hz2 | hz2
  · refine wpAny_call ?_
    k_dflt cell_enter
    repeat' (first | ((fail_if_success (with_reducible show wpAny _ _ (execs (Stmt.Expr _ _ :: _) _) _ _ _)); (first | ((with_reducible show PyProof.Rows.LCg.CompEnd _ _ _ _ _ _ _ _ _ _ _ _ _ _); k_dflt (first | refine cend0 (by assumption) (by assumption) (by ktn_open) (by lcg_src) ?_ | refine cend1 (by assumption) (by assumption) (by ktn_open) (by dsimp only; first | exact off9 | lia) (by lcg_src) ?_ | refine cend2 (by assumption) (by assumption) (by ktn_open) (by dsimp only; first | exact off9 | lia) (by dsimp only; first | exact off9 | lia) (by lcg_src) ?_)) | ((with_reducible show UnrEnd _ _ _ _ _ _ _); k_dflt (refine UnrEnd.intro (by assumption) (by assumption) _ (fun p hp => hp) (by first | exact off_lt (by assumption) | exact off_ltA (by assumption)) ?_)) | ((k_here; (with_reducible show wpAny _ _ (subscriptTail _ _ (Value.ref _) (Value.int _ _)) _ _ _); k_dflt (first | (refine' item_mem0 (by k_asm) (by k_mem) (by lia) ?_ (by with_unfolding_all rfl); k_whole) | (refine' item_mem1 (by k_asm) (by k_mem) (by lia) ?_ (by with_unfolding_all rfl); k_whole) | (refine' item_mem2 (by k_asm) (by k_mem) (by lia) ?_ (by with_unfolding_all rfl); k_whole)))) | ((with_reducible show KasNext _ _ _ _ _); k_dflt (first | refine kas_nextD (b' := false) (by first | rfl | (simp only [decide_eq_false_iff_not]; lia)) ?_ | refine kas_nextD (b' := true) (by first | rfl | (simp only [decide_eq_true_eq]; lia)) ?_); kas_known) | ((with_reducible show KatGo _ _ _ _ _ _ _ _ _ _ _ _); k_dflt (first | refine kat_goD (e' := false) (by simp only [beq_eq_false_iff_ne, ne_eq]; lia) ?_ | refine kat_goD (e' := true) (by simp only [beq_iff_eq]; lia) ?_)) | ((k_here; (with_reducible show wpAny _ _ (call (Value.builtin _) [Value.ref _]) _ _ _); k_dflt ((with_reducible rename News _ _ _ _ => nS'); (try simp only [List.push_toArray, List.cons_append, List.nil_append] at nS'); (first | ((with_unfolding_all refine' kat_sorted (by k_asm) nS' (isl nS' (by k_mem)) (by exact Nat.le_of_ble_eq_true rfl) (by exact Nat.le_of_ble_eq_true rfl) ?_; k_whole); intro D' e' h' F' N' l1; (try k_lt l1); kat_kinds) | ((refine' sorted_one (by k_asm) nS' (isl nS' (by k_mem)) ?_; k_whole); intro D' c' h' F' N' l1; (try k_lt l1); (try dsimp only)))))) | (k_unfold; (try dsimp only)) | (k_end; wrow_close) | walk1 | (dsimp only; walk1))))
    with_unfolding_all refine' naB0 (by k_asm) (by k_asm) (by k_asm) (by k_asm) (by k_asm) (by ktr_room) (by ktr_units) (by rfl) (by rfl) (by rfl) (by assumption) (by lia)  (by passes_own) ?_
    intro h9 tk9 m9 F9 N9
    (repeat' (first | ((with_reducible show PyProof.Rows.LCg.CompEnd _ _ _ _ _ _ _ _ _ _ _ _ _ _); k_dflt (first | refine cend0 (by assumption) (by assumption) (by ktn_open) (by lcg_src) ?_ | refine cend1 (by assumption) (by assumption) (by ktn_open) (by dsimp only; first | exact off9 | lia) (by lcg_src) ?_ | refine cend2 (by assumption) (by assumption) (by ktn_open) (by dsimp only; first | exact off9 | lia) (by dsimp only; first | exact off9 | lia) (by lcg_src) ?_)) | ((with_reducible show UnrEnd _ _ _ _ _ _ _); k_dflt (refine UnrEnd.intro (by assumption) (by assumption) _ (fun p hp => hp) (by first | exact off_lt (by assumption) | exact off_ltA (by assumption)) ?_)) | ((k_here; (with_reducible show wpAny _ _ (subscriptTail _ _ (Value.ref _) (Value.int _ _)) _ _ _); k_dflt (first | (refine' item_mem0 (by k_asm) (by k_mem) (by lia) ?_ (by with_unfolding_all rfl); k_whole) | (refine' item_mem1 (by k_asm) (by k_mem) (by lia) ?_ (by with_unfolding_all rfl); k_whole) | (refine' item_mem2 (by k_asm) (by k_mem) (by lia) ?_ (by with_unfolding_all rfl); k_whole)))) | ((with_reducible show KasNext _ _ _ _ _); k_dflt (first | refine kas_nextD (b' := false) (by first | rfl | (simp only [decide_eq_false_iff_not]; lia)) ?_ | refine kas_nextD (b' := true) (by first | rfl | (simp only [decide_eq_true_eq]; lia)) ?_); kas_known) | ((with_reducible show KatGo _ _ _ _ _ _ _ _ _ _ _ _); k_dflt (first | refine kat_goD (e' := false) (by simp only [beq_eq_false_iff_ne, ne_eq]; lia) ?_ | refine kat_goD (e' := true) (by simp only [beq_iff_eq]; lia) ?_)) | ((k_here; (with_reducible show wpAny _ _ (call (Value.builtin _) [Value.ref _]) _ _ _); k_dflt ((with_reducible rename News _ _ _ _ => nS'); (try simp only [List.push_toArray, List.cons_append, List.nil_append] at nS'); (first | ((with_unfolding_all refine' kat_sorted (by k_asm) nS' (isl nS' (by k_mem)) (by exact Nat.le_of_ble_eq_true rfl) (by exact Nat.le_of_ble_eq_true rfl) ?_; k_whole); intro D' e' h' F' N' l1; (try k_lt l1); kat_kinds) | ((refine' sorted_one (by k_asm) nS' (isl nS' (by k_mem)) ?_; k_whole); intro D' c' h' F' N' l1; (try k_lt l1); (try dsimp only)))))) | (k_unfold; (try dsimp only)) | (k_unmd; k_unfold; (try dsimp only)) | (k_end; wrow_close) | walk1 | (dsimp only; walk1) | (leave1; walk_say "STEP leave1"; try dsimp only) | fail "no step"))
    exact hret _ _ (by assumption) (cb_drop (by assumption) (by (intro p hp; repeat (first | exact hp | apply List.mem_cons_of_mem))))
  · refine wpAny_call ?_
    k_dflt cell_enter
    repeat' (first | ((fail_if_success (with_reducible show wpAny _ _ (execs (Stmt.Expr _ _ :: _) _) _ _ _)); (first | ((with_reducible show PyProof.Rows.LCg.CompEnd _ _ _ _ _ _ _ _ _ _ _ _ _ _); k_dflt (first | refine cend0 (by assumption) (by assumption) (by ktn_open) (by lcg_src) ?_ | refine cend1 (by assumption) (by assumption) (by ktn_open) (by dsimp only; first | exact off9 | lia) (by lcg_src) ?_ | refine cend2 (by assumption) (by assumption) (by ktn_open) (by dsimp only; first | exact off9 | lia) (by dsimp only; first | exact off9 | lia) (by lcg_src) ?_)) | ((with_reducible show UnrEnd _ _ _ _ _ _ _); k_dflt (refine UnrEnd.intro (by assumption) (by assumption) _ (fun p hp => hp) (by first | exact off_lt (by assumption) | exact off_ltA (by assumption)) ?_)) | ((k_here; (with_reducible show wpAny _ _ (subscriptTail _ _ (Value.ref _) (Value.int _ _)) _ _ _); k_dflt (first | (refine' item_mem0 (by k_asm) (by k_mem) (by lia) ?_ (by with_unfolding_all rfl); k_whole) | (refine' item_mem1 (by k_asm) (by k_mem) (by lia) ?_ (by with_unfolding_all rfl); k_whole) | (refine' item_mem2 (by k_asm) (by k_mem) (by lia) ?_ (by with_unfolding_all rfl); k_whole)))) | ((with_reducible show KasNext _ _ _ _ _); k_dflt (first | refine kas_nextD (b' := false) (by first | rfl | (simp only [decide_eq_false_iff_not]; lia)) ?_ | refine kas_nextD (b' := true) (by first | rfl | (simp only [decide_eq_true_eq]; lia)) ?_); kas_known) | ((with_reducible show KatGo _ _ _ _ _ _ _ _ _ _ _ _); k_dflt (first | refine kat_goD (e' := false) (by simp only [beq_eq_false_iff_ne, ne_eq]; lia) ?_ | refine kat_goD (e' := true) (by simp only [beq_iff_eq]; lia) ?_)) | ((k_here; (with_reducible show wpAny _ _ (call (Value.builtin _) [Value.ref _]) _ _ _); k_dflt ((with_reducible rename News _ _ _ _ => nS'); (try simp only [List.push_toArray, List.cons_append, List.nil_append] at nS'); (first | ((with_unfolding_all refine' kat_sorted (by k_asm) nS' (isl nS' (by k_mem)) (by exact Nat.le_of_ble_eq_true rfl) (by exact Nat.le_of_ble_eq_true rfl) ?_; k_whole); intro D' e' h' F' N' l1; (try k_lt l1); kat_kinds) | ((refine' sorted_one (by k_asm) nS' (isl nS' (by k_mem)) ?_; k_whole); intro D' c' h' F' N' l1; (try k_lt l1); (try dsimp only)))))) | (k_unfold; (try dsimp only)) | (k_end; wrow_close) | walk1 | (dsimp only; walk1))))
    rcases hpos with hp | hp
    · with_unfolding_all refine' naB1a (by k_asm) (by k_asm) (by k_asm) (by k_asm) (by k_asm) (by ktr_room) (by ktr_units) (by rfl) (by rfl) (by rfl) (by assumption) (by lia) (by lia) (by lia) (by passes_own) ?_
      intro h9 tk9 m9 F9 N9
      (repeat' (first | ((with_reducible show PyProof.Rows.LCg.CompEnd _ _ _ _ _ _ _ _ _ _ _ _ _ _); k_dflt (first | refine cend0 (by assumption) (by assumption) (by ktn_open) (by lcg_src) ?_ | refine cend1 (by assumption) (by assumption) (by ktn_open) (by dsimp only; first | exact off9 | lia) (by lcg_src) ?_ | refine cend2 (by assumption) (by assumption) (by ktn_open) (by dsimp only; first | exact off9 | lia) (by dsimp only; first | exact off9 | lia) (by lcg_src) ?_)) | ((with_reducible show UnrEnd _ _ _ _ _ _ _); k_dflt (refine UnrEnd.intro (by assumption) (by assumption) _ (fun p hp => hp) (by first | exact off_lt (by assumption) | exact off_ltA (by assumption)) ?_)) | ((k_here; (with_reducible show wpAny _ _ (subscriptTail _ _ (Value.ref _) (Value.int _ _)) _ _ _); k_dflt (first | (refine' item_mem0 (by k_asm) (by k_mem) (by lia) ?_ (by with_unfolding_all rfl); k_whole) | (refine' item_mem1 (by k_asm) (by k_mem) (by lia) ?_ (by with_unfolding_all rfl); k_whole) | (refine' item_mem2 (by k_asm) (by k_mem) (by lia) ?_ (by with_unfolding_all rfl); k_whole)))) | ((with_reducible show KasNext _ _ _ _ _); k_dflt (first | refine kas_nextD (b' := false) (by first | rfl | (simp only [decide_eq_false_iff_not]; lia)) ?_ | refine kas_nextD (b' := true) (by first | rfl | (simp only [decide_eq_true_eq]; lia)) ?_); kas_known) | ((with_reducible show KatGo _ _ _ _ _ _ _ _ _ _ _ _); k_dflt (first | refine kat_goD (e' := false) (by simp only [beq_eq_false_iff_ne, ne_eq]; lia) ?_ | refine kat_goD (e' := true) (by simp only [beq_iff_eq]; lia) ?_)) | ((k_here; (with_reducible show wpAny _ _ (call (Value.builtin _) [Value.ref _]) _ _ _); k_dflt ((with_reducible rename News _ _ _ _ => nS'); (try simp only [List.push_toArray, List.cons_append, List.nil_append] at nS'); (first | ((with_unfolding_all refine' kat_sorted (by k_asm) nS' (isl nS' (by k_mem)) (by exact Nat.le_of_ble_eq_true rfl) (by exact Nat.le_of_ble_eq_true rfl) ?_; k_whole); intro D' e' h' F' N' l1; (try k_lt l1); kat_kinds) | ((refine' sorted_one (by k_asm) nS' (isl nS' (by k_mem)) ?_; k_whole); intro D' c' h' F' N' l1; (try k_lt l1); (try dsimp only)))))) | (k_unfold; (try dsimp only)) | (k_unmd; k_unfold; (try dsimp only)) | (k_end; wrow_close) | walk1 | (dsimp only; walk1) | (leave1; walk_say "STEP leave1"; try dsimp only) | fail "no step"))
      exact hret _ _ (by assumption) (cb_drop (by assumption) (by (intro p hp; repeat (first | exact hp | apply List.mem_cons_of_mem))))
    · with_unfolding_all refine' naB1b (by k_asm) (by k_asm) (by k_asm) (by k_asm) (by k_asm) (by ktr_room) (by ktr_units) (by rfl) (by rfl) (by rfl) (by assumption) (by lia) (by lia) (by lia) (by passes_own) ?_
      intro h9 tk9 m9 F9 N9
      (repeat' (first | ((with_reducible show PyProof.Rows.LCg.CompEnd _ _ _ _ _ _ _ _ _ _ _ _ _ _); k_dflt (first | refine cend0 (by assumption) (by assumption) (by ktn_open) (by lcg_src) ?_ | refine cend1 (by assumption) (by assumption) (by ktn_open) (by dsimp only; first | exact off9 | lia) (by lcg_src) ?_ | refine cend2 (by assumption) (by assumption) (by ktn_open) (by dsimp only; first | exact off9 | lia) (by dsimp only; first | exact off9 | lia) (by lcg_src) ?_)) | ((with_reducible show UnrEnd _ _ _ _ _ _ _); k_dflt (refine UnrEnd.intro (by assumption) (by assumption) _ (fun p hp => hp) (by first | exact off_lt (by assumption) | exact off_ltA (by assumption)) ?_)) | ((k_here; (with_reducible show wpAny _ _ (subscriptTail _ _ (Value.ref _) (Value.int _ _)) _ _ _); k_dflt (first | (refine' item_mem0 (by k_asm) (by k_mem) (by lia) ?_ (by with_unfolding_all rfl); k_whole) | (refine' item_mem1 (by k_asm) (by k_mem) (by lia) ?_ (by with_unfolding_all rfl); k_whole) | (refine' item_mem2 (by k_asm) (by k_mem) (by lia) ?_ (by with_unfolding_all rfl); k_whole)))) | ((with_reducible show KasNext _ _ _ _ _); k_dflt (first | refine kas_nextD (b' := false) (by first | rfl | (simp only [decide_eq_false_iff_not]; lia)) ?_ | refine kas_nextD (b' := true) (by first | rfl | (simp only [decide_eq_true_eq]; lia)) ?_); kas_known) | ((with_reducible show KatGo _ _ _ _ _ _ _ _ _ _ _ _); k_dflt (first | refine kat_goD (e' := false) (by simp only [beq_eq_false_iff_ne, ne_eq]; lia) ?_ | refine kat_goD (e' := true) (by simp only [beq_iff_eq]; lia) ?_)) | ((k_here; (with_reducible show wpAny _ _ (call (Value.builtin _) [Value.ref _]) _ _ _); k_dflt ((with_reducible rename News _ _ _ _ => nS'); (try simp only [List.push_toArray, List.cons_append, List.nil_append] at nS'); (first | ((with_unfolding_all refine' kat_sorted (by k_asm) nS' (isl nS' (by k_mem)) (by exact Nat.le_of_ble_eq_true rfl) (by exact Nat.le_of_ble_eq_true rfl) ?_; k_whole); intro D' e' h' F' N' l1; (try k_lt l1); kat_kinds) | ((refine' sorted_one (by k_asm) nS' (isl nS' (by k_mem)) ?_; k_whole); intro D' c' h' F' N' l1; (try k_lt l1); (try dsimp only)))))) | (k_unfold; (try dsimp only)) | (k_unmd; k_unfold; (try dsimp only)) | (k_end; wrow_close) | walk1 | (dsimp only; walk1) | (leave1; walk_say "STEP leave1"; try dsimp only) | fail "no step"))
      exact hret _ _ (by assumption) (cb_drop (by assumption) (by (intro p hp; repeat (first | exact hp | apply List.mem_cons_of_mem))))
  · refine wpAny_call ?_
    k_dflt cell_enter
    repeat' (first | ((fail_if_success (with_reducible show wpAny _ _ (execs (Stmt.Expr _ _ :: _) _) _ _ _)); (first | ((with_reducible show PyProof.Rows.LCg.CompEnd _ _ _ _ _ _ _ _ _ _ _ _ _ _); k_dflt (first | refine cend0 (by assumption) (by assumption) (by ktn_open) (by lcg_src) ?_ | refine cend1 (by assumption) (by assumption) (by ktn_open) (by dsimp only; first | exact off9 | lia) (by lcg_src) ?_ | refine cend2 (by assumption) (by assumption) (by ktn_open) (by dsimp only; first | exact off9 | lia) (by dsimp only; first | exact off9 | lia) (by lcg_src) ?_)) | ((with_reducible show UnrEnd _ _ _ _ _ _ _); k_dflt (refine UnrEnd.intro (by assumption) (by assumption) _ (fun p hp => hp) (by first | exact off_lt (by assumption) | exact off_ltA (by assumption)) ?_)) | ((k_here; (with_reducible show wpAny _ _ (subscriptTail _ _ (Value.ref _) (Value.int _ _)) _ _ _); k_dflt (first | (refine' item_mem0 (by k_asm) (by k_mem) (by lia) ?_ (by with_unfolding_all rfl); k_whole) | (refine' item_mem1 (by k_asm) (by k_mem) (by lia) ?_ (by with_unfolding_all rfl); k_whole) | (refine' item_mem2 (by k_asm) (by k_mem) (by lia) ?_ (by with_unfolding_all rfl); k_whole)))) | ((with_reducible show KasNext _ _ _ _ _); k_dflt (first | refine kas_nextD (b' := false) (by first | rfl | (simp only [decide_eq_false_iff_not]; lia)) ?_ | refine kas_nextD (b' := true) (by first | rfl | (simp only [decide_eq_true_eq]; lia)) ?_); kas_known) | ((with_reducible show KatGo _ _ _ _ _ _ _ _ _ _ _ _); k_dflt (first | refine kat_goD (e' := false) (by simp only [beq_eq_false_iff_ne, ne_eq]; lia) ?_ | refine kat_goD (e' := true) (by simp only [beq_iff_eq]; lia) ?_)) | ((k_here; (with_reducible show wpAny _ _ (call (Value.builtin _) [Value.ref _]) _ _ _); k_dflt ((with_reducible rename News _ _ _ _ => nS'); (try simp only [List.push_toArray, List.cons_append, List.nil_append] at nS'); (first | ((with_unfolding_all refine' kat_sorted (by k_asm) nS' (isl nS' (by k_mem)) (by exact Nat.le_of_ble_eq_true rfl) (by exact Nat.le_of_ble_eq_true rfl) ?_; k_whole); intro D' e' h' F' N' l1; (try k_lt l1); kat_kinds) | ((refine' sorted_one (by k_asm) nS' (isl nS' (by k_mem)) ?_; k_whole); intro D' c' h' F' N' l1; (try k_lt l1); (try dsimp only)))))) | (k_unfold; (try dsimp only)) | (k_end; wrow_close) | walk1 | (dsimp only; walk1))))
    rcases hpos with hp | hp
    · with_unfolding_all refine' naB1a (by k_asm) (by k_asm) (by k_asm) (by k_asm) (by k_asm) (by ktr_room) (by ktr_units) (by rfl) (by rfl) (by rfl) (by assumption) (by lia) (by lia) (by lia) (by passes_own) ?_
      intro h9 tk9 m9 F9 N9
      (repeat' (first | ((with_reducible show PyProof.Rows.LCg.CompEnd _ _ _ _ _ _ _ _ _ _ _ _ _ _); k_dflt (first | refine cend0 (by assumption) (by assumption) (by ktn_open) (by lcg_src) ?_ | refine cend1 (by assumption) (by assumption) (by ktn_open) (by dsimp only; first | exact off9 | lia) (by lcg_src) ?_ | refine cend2 (by assumption) (by assumption) (by ktn_open) (by dsimp only; first | exact off9 | lia) (by dsimp only; first | exact off9 | lia) (by lcg_src) ?_)) | ((with_reducible show UnrEnd _ _ _ _ _ _ _); k_dflt (refine UnrEnd.intro (by assumption) (by assumption) _ (fun p hp => hp) (by first | exact off_lt (by assumption) | exact off_ltA (by assumption)) ?_)) | ((k_here; (with_reducible show wpAny _ _ (subscriptTail _ _ (Value.ref _) (Value.int _ _)) _ _ _); k_dflt (first | (refine' item_mem0 (by k_asm) (by k_mem) (by lia) ?_ (by with_unfolding_all rfl); k_whole) | (refine' item_mem1 (by k_asm) (by k_mem) (by lia) ?_ (by with_unfolding_all rfl); k_whole) | (refine' item_mem2 (by k_asm) (by k_mem) (by lia) ?_ (by with_unfolding_all rfl); k_whole)))) | ((with_reducible show KasNext _ _ _ _ _); k_dflt (first | refine kas_nextD (b' := false) (by first | rfl | (simp only [decide_eq_false_iff_not]; lia)) ?_ | refine kas_nextD (b' := true) (by first | rfl | (simp only [decide_eq_true_eq]; lia)) ?_); kas_known) | ((with_reducible show KatGo _ _ _ _ _ _ _ _ _ _ _ _); k_dflt (first | refine kat_goD (e' := false) (by simp only [beq_eq_false_iff_ne, ne_eq]; lia) ?_ | refine kat_goD (e' := true) (by simp only [beq_iff_eq]; lia) ?_)) | ((k_here; (with_reducible show wpAny _ _ (call (Value.builtin _) [Value.ref _]) _ _ _); k_dflt ((with_reducible rename News _ _ _ _ => nS'); (try simp only [List.push_toArray, List.cons_append, List.nil_append] at nS'); (first | ((with_unfolding_all refine' kat_sorted (by k_asm) nS' (isl nS' (by k_mem)) (by exact Nat.le_of_ble_eq_true rfl) (by exact Nat.le_of_ble_eq_true rfl) ?_; k_whole); intro D' e' h' F' N' l1; (try k_lt l1); kat_kinds) | ((refine' sorted_one (by k_asm) nS' (isl nS' (by k_mem)) ?_; k_whole); intro D' c' h' F' N' l1; (try k_lt l1); (try dsimp only)))))) | (k_unfold; (try dsimp only)) | (k_unmd; k_unfold; (try dsimp only)) | (k_end; wrow_close) | walk1 | (dsimp only; walk1) | (leave1; walk_say "STEP leave1"; try dsimp only) | fail "no step"))
      exact hret _ _ (by assumption) (cb_drop (by assumption) (by (intro p hp; repeat (first | exact hp | apply List.mem_cons_of_mem))))
    · with_unfolding_all refine' naB1b (by k_asm) (by k_asm) (by k_asm) (by k_asm) (by k_asm) (by ktr_room) (by ktr_units) (by rfl) (by rfl) (by rfl) (by assumption) (by lia) (by lia) (by lia) (by passes_own) ?_
      intro h9 tk9 m9 F9 N9
      (repeat' (first | ((with_reducible show PyProof.Rows.LCg.CompEnd _ _ _ _ _ _ _ _ _ _ _ _ _ _); k_dflt (first | refine cend0 (by assumption) (by assumption) (by ktn_open) (by lcg_src) ?_ | refine cend1 (by assumption) (by assumption) (by ktn_open) (by dsimp only; first | exact off9 | lia) (by lcg_src) ?_ | refine cend2 (by assumption) (by assumption) (by ktn_open) (by dsimp only; first | exact off9 | lia) (by dsimp only; first | exact off9 | lia) (by lcg_src) ?_)) | ((with_reducible show UnrEnd _ _ _ _ _ _ _); k_dflt (refine UnrEnd.intro (by assumption) (by assumption) _ (fun p hp => hp) (by first | exact off_lt (by assumption) | exact off_ltA (by assumption)) ?_)) | ((k_here; (with_reducible show wpAny _ _ (subscriptTail _ _ (Value.ref _) (Value.int _ _)) _ _ _); k_dflt (first | (refine' item_mem0 (by k_asm) (by k_mem) (by lia) ?_ (by with_unfolding_all rfl); k_whole) | (refine' item_mem1 (by k_asm) (by k_mem) (by lia) ?_ (by with_unfolding_all rfl); k_whole) | (refine' item_mem2 (by k_asm) (by k_mem) (by lia) ?_ (by with_unfolding_all rfl); k_whole)))) | ((with_reducible show KasNext _ _ _ _ _); k_dflt (first | refine kas_nextD (b' := false) (by first | rfl | (simp only [decide_eq_false_iff_not]; lia)) ?_ | refine kas_nextD (b' := true) (by first | rfl | (simp only [decide_eq_true_eq]; lia)) ?_); kas_known) | ((with_reducible show KatGo _ _ _ _ _ _ _ _ _ _ _ _); k_dflt (first | refine kat_goD (e' := false) (by simp only [beq_eq_false_iff_ne, ne_eq]; lia) ?_ | refine kat_goD (e' := true) (by simp only [beq_iff_eq]; lia) ?_)) | ((k_here; (with_reducible show wpAny _ _ (call (Value.builtin _) [Value.ref _]) _ _ _); k_dflt ((with_reducible rename News _ _ _ _ => nS'); (try simp only [List.push_toArray, List.cons_append, List.nil_append] at nS'); (first | ((with_unfolding_all refine' kat_sorted (by k_asm) nS' (isl nS' (by k_mem)) (by exact Nat.le_of_ble_eq_true rfl) (by exact Nat.le_of_ble_eq_true rfl) ?_; k_whole); intro D' e' h' F' N' l1; (try k_lt l1); kat_kinds) | ((refine' sorted_one (by k_asm) nS' (isl nS' (by k_mem)) ?_; k_whole); intro D' c' h' F' N' l1; (try k_lt l1); (try dsimp only)))))) | (k_unfold; (try dsimp only)) | (k_unmd; k_unfold; (try dsimp only)) | (k_end; wrow_close) | walk1 | (dsimp only; walk1) | (leave1; walk_say "STEP leave1"; try dsimp only) | fail "no step"))
      exact hret _ _ (by assumption) (cb_drop (by assumption) (by (intro p hp; repeat (first | exact hp | apply List.mem_cons_of_mem))))
  · refine wpAny_call ?_
    k_dflt cell_enter
    repeat' (first | ((fail_if_success (with_reducible show wpAny _ _ (execs (Stmt.Expr _ _ :: _) _) _ _ _)); (first | ((with_reducible show PyProof.Rows.LCg.CompEnd _ _ _ _ _ _ _ _ _ _ _ _ _ _); k_dflt (first | refine cend0 (by assumption) (by assumption) (by ktn_open) (by lcg_src) ?_ | refine cend1 (by assumption) (by assumption) (by ktn_open) (by dsimp only; first | exact off9 | lia) (by lcg_src) ?_ | refine cend2 (by assumption) (by assumption) (by ktn_open) (by dsimp only; first | exact off9 | lia) (by dsimp only; first | exact off9 | lia) (by lcg_src) ?_)) | ((with_reducible show UnrEnd _ _ _ _ _ _ _); k_dflt (refine UnrEnd.intro (by assumption) (by assumption) _ (fun p hp => hp) (by first | exact off_lt (by assumption) | exact off_ltA (by assumption)) ?_)) | ((k_here; (with_reducible show wpAny _ _ (subscriptTail _ _ (Value.ref _) (Value.int _ _)) _ _ _); k_dflt (first | (refine' item_mem0 (by k_asm) (by k_mem) (by lia) ?_ (by with_unfolding_all rfl); k_whole) | (refine' item_mem1 (by k_asm) (by k_mem) (by lia) ?_ (by with_unfolding_all rfl); k_whole) | (refine' item_mem2 (by k_asm) (by k_mem) (by lia) ?_ (by with_unfolding_all rfl); k_whole)))) | ((with_reducible show KasNext _ _ _ _ _); k_dflt (first | refine kas_nextD (b' := false) (by first | rfl | (simp only [decide_eq_false_iff_not]; lia)) ?_ | refine kas_nextD (b' := true) (by first | rfl | (simp only [decide_eq_true_eq]; lia)) ?_); kas_known) | ((with_reducible show KatGo _ _ _ _ _ _ _ _ _ _ _ _); k_dflt (first | refine kat_goD (e' := false) (by simp only [beq_eq_false_iff_ne, ne_eq]; lia) ?_ | refine kat_goD (e' := true) (by simp only [beq_iff_eq]; lia) ?_)) | ((k_here; (with_reducible show wpAny _ _ (call (Value.builtin _) [Value.ref _]) _ _ _); k_dflt ((with_reducible rename News _ _ _ _ => nS'); (try simp only [List.push_toArray, List.cons_append, List.nil_append] at nS'); (first | ((with_unfolding_all refine' kat_sorted (by k_asm) nS' (isl nS' (by k_mem)) (by exact Nat.le_of_ble_eq_true rfl) (by exact Nat.le_of_ble_eq_true rfl) ?_; k_whole); intro D' e' h' F' N' l1; (try k_lt l1); kat_kinds) | ((refine' sorted_one (by k_asm) nS' (isl nS' (by k_mem)) ?_; k_whole); intro D' c' h' F' N' l1; (try k_lt l1); (try dsimp only)))))) | (k_unfold; (try dsimp only)) | (k_end; wrow_close) | walk1 | (dsimp only; walk1))))
    rcases hpos with hp | hp
    · with_unfolding_all refine' naB2a (by k_asm) (by k_asm) (by k_asm) (by k_asm) (by k_asm) (by ktr_room) (by ktr_units) (by rfl) (by rfl) (by rfl) (by assumption) (by lia) (by lia) (by lia) (by lia) (by lia) (by passes_own) ?_
      intro h9 tk9 m9 F9 N9
      (repeat' (first | ((with_reducible show PyProof.Rows.LCg.CompEnd _ _ _ _ _ _ _ _ _ _ _ _ _ _); k_dflt (first | refine cend0 (by assumption) (by assumption) (by ktn_open) (by lcg_src) ?_ | refine cend1 (by assumption) (by assumption) (by ktn_open) (by dsimp only; first | exact off9 | lia) (by lcg_src) ?_ | refine cend2 (by assumption) (by assumption) (by ktn_open) (by dsimp only; first | exact off9 | lia) (by dsimp only; first | exact off9 | lia) (by lcg_src) ?_)) | ((with_reducible show UnrEnd _ _ _ _ _ _ _); k_dflt (refine UnrEnd.intro (by assumption) (by assumption) _ (fun p hp => hp) (by first | exact off_lt (by assumption) | exact off_ltA (by assumption)) ?_)) | ((k_here; (with_reducible show wpAny _ _ (subscriptTail _ _ (Value.ref _) (Value.int _ _)) _ _ _); k_dflt (first | (refine' item_mem0 (by k_asm) (by k_mem) (by lia) ?_ (by with_unfolding_all rfl); k_whole) | (refine' item_mem1 (by k_asm) (by k_mem) (by lia) ?_ (by with_unfolding_all rfl); k_whole) | (refine' item_mem2 (by k_asm) (by k_mem) (by lia) ?_ (by with_unfolding_all rfl); k_whole)))) | ((with_reducible show KasNext _ _ _ _ _); k_dflt (first | refine kas_nextD (b' := false) (by first | rfl | (simp only [decide_eq_false_iff_not]; lia)) ?_ | refine kas_nextD (b' := true) (by first | rfl | (simp only [decide_eq_true_eq]; lia)) ?_); kas_known) | ((with_reducible show KatGo _ _ _ _ _ _ _ _ _ _ _ _); k_dflt (first | refine kat_goD (e' := false) (by simp only [beq_eq_false_iff_ne, ne_eq]; lia) ?_ | refine kat_goD (e' := true) (by simp only [beq_iff_eq]; lia) ?_)) | ((k_here; (with_reducible show wpAny _ _ (call (Value.builtin _) [Value.ref _]) _ _ _); k_dflt ((with_reducible rename News _ _ _ _ => nS'); (try simp only [List.push_toArray, List.cons_append, List.nil_append] at nS'); (first | ((with_unfolding_all refine' kat_sorted (by k_asm) nS' (isl nS' (by k_mem)) (by exact Nat.le_of_ble_eq_true rfl) (by exact Nat.le_of_ble_eq_true rfl) ?_; k_whole); intro D' e' h' F' N' l1; (try k_lt l1); kat_kinds) | ((refine' sorted_one (by k_asm) nS' (isl nS' (by k_mem)) ?_; k_whole); intro D' c' h' F' N' l1; (try k_lt l1); (try dsimp only)))))) | (k_unfold; (try dsimp only)) | (k_unmd; k_unfold; (try dsimp only)) | (k_end; wrow_close) | walk1 | (dsimp only; walk1) | (leave1; walk_say "STEP leave1"; try dsimp only) | fail "no step"))
      exact hret _ _ (by assumption) (cb_drop (by assumption) (by (intro p hp; repeat (first | exact hp | apply List.mem_cons_of_mem))))
    · with_unfolding_all refine' naB2b (by k_asm) (by k_asm) (by k_asm) (by k_asm) (by k_asm) (by ktr_room) (by ktr_units) (by rfl) (by rfl) (by rfl) (by assumption) (by lia) (by lia) (by lia) (by lia) (by lia) (by passes_own) ?_
      intro h9 tk9 m9 F9 N9
      (repeat' (first | ((with_reducible show PyProof.Rows.LCg.CompEnd _ _ _ _ _ _ _ _ _ _ _ _ _ _); k_dflt (first | refine cend0 (by assumption) (by assumption) (by ktn_open) (by lcg_src) ?_ | refine cend1 (by assumption) (by assumption) (by ktn_open) (by dsimp only; first | exact off9 | lia) (by lcg_src) ?_ | refine cend2 (by assumption) (by assumption) (by ktn_open) (by dsimp only; first | exact off9 | lia) (by dsimp only; first | exact off9 | lia) (by lcg_src) ?_)) | ((with_reducible show UnrEnd _ _ _ _ _ _ _); k_dflt (refine UnrEnd.intro (by assumption) (by assumption) _ (fun p hp => hp) (by first | exact off_lt (by assumption) | exact off_ltA (by assumption)) ?_)) | ((k_here; (with_reducible show wpAny _ _ (subscriptTail _ _ (Value.ref _) (Value.int _ _)) _ _ _); k_dflt (first | (refine' item_mem0 (by k_asm) (by k_mem) (by lia) ?_ (by with_unfolding_all rfl); k_whole) | (refine' item_mem1 (by k_asm) (by k_mem) (by lia) ?_ (by with_unfolding_all rfl); k_whole) | (refine' item_mem2 (by k_asm) (by k_mem) (by lia) ?_ (by with_unfolding_all rfl); k_whole)))) | ((with_reducible show KasNext _ _ _ _ _); k_dflt (first | refine kas_nextD (b' := false) (by first | rfl | (simp only [decide_eq_false_iff_not]; lia)) ?_ | refine kas_nextD (b' := true) (by first | rfl | (simp only [decide_eq_true_eq]; lia)) ?_); kas_known) | ((with_reducible show KatGo _ _ _ _ _ _ _ _ _ _ _ _); k_dflt (first | refine kat_goD (e' := false) (by simp only [beq_eq_false_iff_ne, ne_eq]; lia) ?_ | refine kat_goD (e' := true) (by simp only [beq_iff_eq]; lia) ?_)) | ((k_here; (with_reducible show wpAny _ _ (call (Value.builtin _) [Value.ref _]) _ _ _); k_dflt ((with_reducible rename News _ _ _ _ => nS'); (try simp only [List.push_toArray, List.cons_append, List.nil_append] at nS'); (first | ((with_unfolding_all refine' kat_sorted (by k_asm) nS' (isl nS' (by k_mem)) (by exact Nat.le_of_ble_eq_true rfl) (by exact Nat.le_of_ble_eq_true rfl) ?_; k_whole); intro D' e' h' F' N' l1; (try k_lt l1); kat_kinds) | ((refine' sorted_one (by k_asm) nS' (isl nS' (by k_mem)) ?_; k_whole); intro D' c' h' F' N' l1; (try k_lt l1); (try dsimp only)))))) | (k_unfold; (try dsimp only)) | (k_unmd; k_unfold; (try dsimp only)) | (k_end; wrow_close) | walk1 | (dsimp only; walk1) | (leave1; walk_say "STEP leave1"; try dsimp only) | fail "no step"))
      exact hret _ _ (by assumption) (cb_drop (by assumption) (by (intro p hp; repeat (first | exact hp | apply List.mem_cons_of_mem))))
end
end
section
theorem part10 : True := by
  w_top off
  trivial
theorem mem_tail3 {α : Type} {p x y z : α} {l : List α} (h : p ∈ l) : p ∈ x :: y :: z :: l := List.mem_cons_of_mem _ (List.mem_cons_of_mem _ (List.mem_cons_of_mem _ h))
theorem mem_tail4 {α : Type} {p x y z u : α} {l : List α} (h : p ∈ l) : p ∈ x :: y :: z :: u :: l := List.mem_cons_of_mem _ (mem_tail3 h)
theorem tk_of {v : Array UInt8} {ks : List Int} {b l : Int} (h : KBw.bInts v = List.take (b + l - b).toNat (List.drop b.toNat ks)) : KBw.bInts v = (ks.drop b.toNat).take l.toNat := by
  rw [h, show b + l - b = l by lia]
theorem News.sub {h₀ h : Heap} {L : Addr} {l l' : List (Addr × Obj)} (N : News h₀ L h l) (k : ∀ p ∈ l', p ∈ l) : News h₀ L h l' := fun p hp => N p (k p hp)
section
variable {w : World} {mean : ExcName → Option Value} {mg mb : Str → Option Value} {dp un : Nat} {gd : Option (List Code)} {cn : Str} {cs : Scope} {a : Addr} {ccd : Value} {cl : List (Str × Addr)} {outer : List Env} {A₀ : Around} {base h₀ : Heap} {L : Addr} {m : Str → Option Value} {s : Shared} {Q E : Value → Shared → Prop}
set_option maxRecDepth 100000 in
set_option maxHeartbeats 8000000 in
theorem to1_c {d : Array UInt8} {ks : List Int} {t1 : Tok} {rl : Addr} {n : Nat} {news : List (Addr × Obj)} {z1 dz1 : Addr} {bg1 ln1 wh1 y1 : Int} {a1 b1 c1 e1 f1 g1 o1 p1 q1 r1 : Tok}
  (B : Below A₀ base outer h₀) (F : Fr h₀ L s.heap m) (X : (Mine.hd.heap_39 w.params).In h₀) (N : News h₀ L s.heap (news)) (T : Top Mine.hd.view_39 (looseW Mine.hd.view_39 [Str.ofString "ShapeError", Str.ofString "VERSIONS"]) mean mg mb h₀) (hk : cs.kind = .function)
  (hks : KBw.bInts d = ks) (hs : ks.length ≤ 1048576) (ml : (rl, listOf #[.ref z1] n) ∈ news) (m1a : (z1, instObj 209 dz1) ∈ news) (m1b : (dz1, dictOf [⟨PyData.keyHash w.params (Str.ofString "tag"), .str (Str.ofString "tag") a1, .str (Str.ofString "cmap") b1⟩, ⟨PyData.keyHash w.params (Str.ofString "total"), .str (Str.ofString "total") c1, .int y1 e1⟩, ⟨PyData.keyHash w.params (Str.ofString "begin"), .str (Str.ofString "begin") f1, .int bg1 g1⟩, ⟨PyData.keyHash w.params (Str.ofString "length"), .str (Str.ofString "length") o1, .int ln1 p1⟩, ⟨PyData.keyHash w.params (Str.ofString "where"), .str (Str.ofString "where") q1, .int wh1 r1⟩] 5) ∈ news) (hb1 : 0 ≤ bg1) (hl1 : 0 ≤ ln1) (he1 : bg1 + ln1 ≤ (ks.length : Int))
  (hd : dp + 4 ≤ 500) (hu : un + 32 ≤ 2000)
  (hret : ∀ v h' tk' k1 v1 u1, Fr h₀ L h' m → News h₀ L h' ((v, dictOf [⟨PyData.keyHash w.params (Str.ofString "cmap"), .str (Str.ofString "cmap") k1, .bytes v1 u1⟩] 1) :: news) → (∀ p ∈ news, p.1 ≠ v) → KBw.bInts v1 = (ks.drop bg1.toNat).take ln1.toNat → Q (.ref v) { s with heap := h', toks := tk' }) :
  wpAny (model PySem.Challenge.rw_pb0178_01.row.prog w) (ktrTop dp un gd cn cs L a ccd cl outer) (call (.ref 249) [.bytes d t1, .ref rl]) Q E s := by
  refine wpAny_call ?_
  k_dflt (refine' code_defC ?k1 ?k2 ?k3 ?k4 ?k5 ?kA ?kF ?kK ?k6 ?k7 ?k8 ?k9 ?kB ?kD ?_ ?c2 ?c3 ?c4; (case kA => exact rfl); (case kF => exact rfl); (case kK => assumption); (case k1 => k_asm); (case k2 => k_asm); (case k3 => k_asm); (case k4 => k_asm); (case k5 => k_asm); (case k6 => k_is); (case k7 => k_is); (case k8 => ktr_room); (case k9 => exact BindsTo.of_eq rfl); (case kB => exact rfl); (case kD => decide +kernel); (case c2 => exact rfl); (case c3 => exact rfl); (case c4 => exact rfl); k_whole; intro g' L' h' tk' cells' FG' F' N' Y' B' X' T' l1; (try k_lt l1); k_cells Y'; (try simp only [List.cons_append, List.nil_append] at N'); (try dsimp only); (try k_fold))
  (repeat' (first | ((with_reducible show PyProof.Rows.LCg.CompEnd _ _ _ _ _ _ _ _ _ _ _ _ _ _); k_dflt (first | refine cend0 (by assumption) (by assumption) (by ktn_open) (by lcg_src) ?_ | refine cend1 (by assumption) (by assumption) (by ktn_open) (by dsimp only; first | exact off9 | lia) (by lcg_src) ?_ | refine cend2 (by assumption) (by assumption) (by ktn_open) (by dsimp only; first | exact off9 | lia) (by dsimp only; first | exact off9 | lia) (by lcg_src) ?_)) | ((with_reducible show UnrEnd _ _ _ _ _ _ _); k_dflt (refine UnrEnd.intro (by assumption) (by assumption) _ (fun p hp => hp) (by first | exact off_lt (by assumption) | exact off_ltA (by assumption)) ?_)) | ((k_here; (with_reducible show wpAny _ _ (subscriptTail _ _ (Value.ref _) (Value.int _ _)) _ _ _); k_dflt (first | (refine' item_mem0 (by k_asm) (by k_mem) (by lia) ?_ (by with_unfolding_all rfl); k_whole) | (refine' item_mem1 (by k_asm) (by k_mem) (by lia) ?_ (by with_unfolding_all rfl); k_whole) | (refine' item_mem2 (by k_asm) (by k_mem) (by lia) ?_ (by with_unfolding_all rfl); k_whole)))) | ((with_reducible show KasNext _ _ _ _ _); k_dflt (first | refine kas_nextD (b' := false) (by first | rfl | (simp only [decide_eq_false_iff_not]; lia)) ?_ | refine kas_nextD (b' := true) (by first | rfl | (simp only [decide_eq_true_eq]; lia)) ?_); kas_known) | ((with_reducible show KatGo _ _ _ _ _ _ _ _ _ _ _ _); k_dflt (first | refine kat_goD (e' := false) (by simp only [beq_eq_false_iff_ne, ne_eq]; lia) ?_ | refine kat_goD (e' := true) (by simp only [beq_iff_eq]; lia) ?_)) | ((k_here; (with_reducible show wpAny _ _ (call (Value.builtin _) [Value.ref _]) _ _ _); k_dflt ((with_reducible rename News _ _ _ _ => nS'); (try simp only [List.push_toArray, List.cons_append, List.nil_append] at nS'); (first | ((with_unfolding_all refine' kat_sorted (by k_asm) nS' (isl nS' (by k_mem)) (by exact Nat.le_of_ble_eq_true rfl) (by exact Nat.le_of_ble_eq_true rfl) ?_; k_whole); intro D' e' h' F' N' l1; (try k_lt l1); kat_kinds) | ((refine' sorted_one (by k_asm) nS' (isl nS' (by k_mem)) ?_; k_whole); intro D' c' h' F' N' l1; (try k_lt l1); (try dsimp only)))))) | (with_reducible ((k_here; (with_reducible show wpAny _ _ (subscriptTail _ (Expr.Slice _ _ none _) (Value.bytes _ _) (Value.ref _)) _ _ _); (with_reducible rename Fr _ _ _ _ => F'); (with_reducible rename News _ _ _ _ => N'); (first | (refine sliceIJ (s := ⟨_, _, _, _, _⟩) F' N' (by assumption) (by lia) (by lia) (by first | lia | (simp only [List.length_append, List.length_take, List.length_drop, List.length_cons, List.length_nil]; lia)) (by lia) ?_ (by with_unfolding_all rfl) (by intro _; with_unfolding_all rfl)) | (refine sliceI (s := ⟨_, _, _, _, _⟩) F' N' (by assumption) (by lia) (by first | lia | (simp only [List.length_append, List.length_take, List.length_drop, List.length_cons, List.length_nil]; lia)) (by lia) ?_ (by with_unfolding_all rfl) (by intro _; with_unfolding_all rfl)) | (refine sliceJ (s := ⟨_, _, _, _, _⟩) F' N' (by assumption) (by lia) (by first | lia | (simp only [List.length_append, List.length_take, List.length_drop, List.length_cons, List.length_nil]; lia)) (by lia) ?_ (by with_unfolding_all rfl) (by intro _; with_unfolding_all rfl))); intro bS' hS' tS' kS' fS' nS' eS'; clear F' N'))) | (k_unfold; (try dsimp only)) | (k_unmd; k_unfold; (try dsimp only)) | (k_end; wrow_close) | walk1 | (dsimp only; walk1) | (leave1; walk_say "STEP leave1"; try dsimp only) | fail "no step"))
  all_goals (refine dict1_w (by assumption) (by assumption) (by assumption) (by repeat (first | exact List.mem_cons_self | apply List.mem_cons_of_mem)) (by repeat (first | exact List.mem_cons_self | apply List.mem_cons_of_mem)) (by ktr_room) (by ktr_room) ?_)
  all_goals intro aD hD tD FD ND neD
  all_goals (repeat' (first | ((with_reducible show PyProof.Rows.LCg.CompEnd _ _ _ _ _ _ _ _ _ _ _ _ _ _); k_dflt (first | refine cend0 (by assumption) (by assumption) (by ktn_open) (by lcg_src) ?_ | refine cend1 (by assumption) (by assumption) (by ktn_open) (by dsimp only; first | exact off9 | lia) (by lcg_src) ?_ | refine cend2 (by assumption) (by assumption) (by ktn_open) (by dsimp only; first | exact off9 | lia) (by dsimp only; first | exact off9 | lia) (by lcg_src) ?_)) | ((with_reducible show UnrEnd _ _ _ _ _ _ _); k_dflt (refine UnrEnd.intro (by assumption) (by assumption) _ (fun p hp => hp) (by first | exact off_lt (by assumption) | exact off_ltA (by assumption)) ?_)) | ((k_here; (with_reducible show wpAny _ _ (subscriptTail _ _ (Value.ref _) (Value.int _ _)) _ _ _); k_dflt (first | (refine' item_mem0 (by k_asm) (by k_mem) (by lia) ?_ (by with_unfolding_all rfl); k_whole) | (refine' item_mem1 (by k_asm) (by k_mem) (by lia) ?_ (by with_unfolding_all rfl); k_whole) | (refine' item_mem2 (by k_asm) (by k_mem) (by lia) ?_ (by with_unfolding_all rfl); k_whole)))) | ((with_reducible show KasNext _ _ _ _ _); k_dflt (first | refine kas_nextD (b' := false) (by first | rfl | (simp only [decide_eq_false_iff_not]; lia)) ?_ | refine kas_nextD (b' := true) (by first | rfl | (simp only [decide_eq_true_eq]; lia)) ?_); kas_known) | ((with_reducible show KatGo _ _ _ _ _ _ _ _ _ _ _ _); k_dflt (first | refine kat_goD (e' := false) (by simp only [beq_eq_false_iff_ne, ne_eq]; lia) ?_ | refine kat_goD (e' := true) (by simp only [beq_iff_eq]; lia) ?_)) | ((k_here; (with_reducible show wpAny _ _ (call (Value.builtin _) [Value.ref _]) _ _ _); k_dflt ((with_reducible rename News _ _ _ _ => nS'); (try simp only [List.push_toArray, List.cons_append, List.nil_append] at nS'); (first | ((with_unfolding_all refine' kat_sorted (by k_asm) nS' (isl nS' (by k_mem)) (by exact Nat.le_of_ble_eq_true rfl) (by exact Nat.le_of_ble_eq_true rfl) ?_; k_whole); intro D' e' h' F' N' l1; (try k_lt l1); kat_kinds) | ((refine' sorted_one (by k_asm) nS' (isl nS' (by k_mem)) ?_; k_whole); intro D' c' h' F' N' l1; (try k_lt l1); (try dsimp only)))))) | (with_reducible ((k_here; (with_reducible show wpAny _ _ (subscriptTail _ (Expr.Slice _ _ none _) (Value.bytes _ _) (Value.ref _)) _ _ _); (with_reducible rename Fr _ _ _ _ => F'); (with_reducible rename News _ _ _ _ => N'); (first | (refine sliceIJ (s := ⟨_, _, _, _, _⟩) F' N' (by assumption) (by lia) (by lia) (by first | lia | (simp only [List.length_append, List.length_take, List.length_drop, List.length_cons, List.length_nil]; lia)) (by lia) ?_ (by with_unfolding_all rfl) (by intro _; with_unfolding_all rfl)) | (refine sliceI (s := ⟨_, _, _, _, _⟩) F' N' (by assumption) (by lia) (by first | lia | (simp only [List.length_append, List.length_take, List.length_drop, List.length_cons, List.length_nil]; lia)) (by lia) ?_ (by with_unfolding_all rfl) (by intro _; with_unfolding_all rfl)) | (refine sliceJ (s := ⟨_, _, _, _, _⟩) F' N' (by assumption) (by lia) (by first | lia | (simp only [List.length_append, List.length_take, List.length_drop, List.length_cons, List.length_nil]; lia)) (by lia) ?_ (by with_unfolding_all rfl) (by intro _; with_unfolding_all rfl))); intro bS' hS' tS' kS' fS' nS' eS'; clear F' N'))) | (k_unfold; (try dsimp only)) | (k_unmd; k_unfold; (try dsimp only)) | (k_end; wrow_close) | walk1 | (dsimp only; walk1) | (leave1; walk_say "STEP leave1"; try dsimp only) | fail "no step"))
  all_goals exact hret _ _ _ _ _ _ (by assumption) (News.sub (by assumption) (fun p hp => by
    rcases List.mem_cons.mp hp with rfl | hp
    · exact List.mem_cons_self
    · exact List.mem_cons_of_mem _ (mem_tail3 hp))) (fun p hp => neD p (mem_tail3 hp)) (tk_of (by assumption))
set_option maxRecDepth 100000 in
set_option maxHeartbeats 8000000 in
theorem to2_c {d : Array UInt8} {ks : List Int} {t1 : Tok} {rl : Addr} {n : Nat} {news : List (Addr × Obj)} {z1 dz1 : Addr} {bg1 ln1 wh1 y1 : Int} {a1 b1 c1 e1 f1 g1 o1 p1 q1 r1 : Tok} {z2 dz2 : Addr} {bg2 ln2 wh2 y2 : Int} {a2 b2 c2 e2 f2 g2 o2 p2 q2 r2 : Tok}
  (B : Below A₀ base outer h₀) (F : Fr h₀ L s.heap m) (X : (Mine.hd.heap_39 w.params).In h₀) (N : News h₀ L s.heap (news)) (T : Top Mine.hd.view_39 (looseW Mine.hd.view_39 [Str.ofString "ShapeError", Str.ofString "VERSIONS"]) mean mg mb h₀) (hk : cs.kind = .function)
  (hks : KBw.bInts d = ks) (hs : ks.length ≤ 1048576) (ml : (rl, listOf #[.ref z1, .ref z2] n) ∈ news) (m1a : (z1, instObj 209 dz1) ∈ news) (m1b : (dz1, dictOf [⟨PyData.keyHash w.params (Str.ofString "tag"), .str (Str.ofString "tag") a1, .str (Str.ofString "cmap") b1⟩, ⟨PyData.keyHash w.params (Str.ofString "total"), .str (Str.ofString "total") c1, .int y1 e1⟩, ⟨PyData.keyHash w.params (Str.ofString "begin"), .str (Str.ofString "begin") f1, .int bg1 g1⟩, ⟨PyData.keyHash w.params (Str.ofString "length"), .str (Str.ofString "length") o1, .int ln1 p1⟩, ⟨PyData.keyHash w.params (Str.ofString "where"), .str (Str.ofString "where") q1, .int wh1 r1⟩] 5) ∈ news) (hb1 : 0 ≤ bg1) (hl1 : 0 ≤ ln1) (he1 : bg1 + ln1 ≤ (ks.length : Int)) (m2a : (z2, instObj 209 dz2) ∈ news) (m2b : (dz2, dictOf [⟨PyData.keyHash w.params (Str.ofString "tag"), .str (Str.ofString "tag") a2, .str (Str.ofString "post") b2⟩, ⟨PyData.keyHash w.params (Str.ofString "total"), .str (Str.ofString "total") c2, .int y2 e2⟩, ⟨PyData.keyHash w.params (Str.ofString "begin"), .str (Str.ofString "begin") f2, .int bg2 g2⟩, ⟨PyData.keyHash w.params (Str.ofString "length"), .str (Str.ofString "length") o2, .int ln2 p2⟩, ⟨PyData.keyHash w.params (Str.ofString "where"), .str (Str.ofString "where") q2, .int wh2 r2⟩] 5) ∈ news) (hb2 : 0 ≤ bg2) (hl2 : 0 ≤ ln2) (he2 : bg2 + ln2 ≤ (ks.length : Int))
  (hd : dp + 4 ≤ 500) (hu : un + 32 ≤ 2000)
  (hret : ∀ v h' tk' k1 v1 u1 k2 v2 u2, Fr h₀ L h' m → News h₀ L h' ((v, dictOf [⟨PyData.keyHash w.params (Str.ofString "cmap"), .str (Str.ofString "cmap") k1, .bytes v1 u1⟩, ⟨PyData.keyHash w.params (Str.ofString "post"), .str (Str.ofString "post") k2, .bytes v2 u2⟩] 2) :: news) → (∀ p ∈ news, p.1 ≠ v) → KBw.bInts v1 = (ks.drop bg1.toNat).take ln1.toNat → KBw.bInts v2 = (ks.drop bg2.toNat).take ln2.toNat → Q (.ref v) { s with heap := h', toks := tk' }) :
  wpAny (model PySem.Challenge.rw_pb0178_01.row.prog w) (ktrTop dp un gd cn cs L a ccd cl outer) (call (.ref 249) [.bytes d t1, .ref rl]) Q E s := by
  refine wpAny_call ?_
  k_dflt (refine' code_defC ?k1 ?k2 ?k3 ?k4 ?k5 ?kA ?kF ?kK ?k6 ?k7 ?k8 ?k9 ?kB ?kD ?_ ?c2 ?c3 ?c4; (case kA => exact rfl); (case kF => exact rfl); (case kK => assumption); (case k1 => k_asm); (case k2 => k_asm); (case k3 => k_asm); (case k4 => k_asm); (case k5 => k_asm); (case k6 => k_is); (case k7 => k_is); (case k8 => ktr_room); (case k9 => exact BindsTo.of_eq rfl); (case kB => exact rfl); (case kD => decide +kernel); (case c2 => exact rfl); (case c3 => exact rfl); (case c4 => exact rfl); k_whole; intro g' L' h' tk' cells' FG' F' N' Y' B' X' T' l1; (try k_lt l1); k_cells Y'; (try simp only [List.cons_append, List.nil_append] at N'); (try dsimp only); (try k_fold))
  (repeat' (first | ((with_reducible show PyProof.Rows.LCg.CompEnd _ _ _ _ _ _ _ _ _ _ _ _ _ _); k_dflt (first | refine cend0 (by assumption) (by assumption) (by ktn_open) (by lcg_src) ?_ | refine cend1 (by assumption) (by assumption) (by ktn_open) (by dsimp only; first | exact off9 | lia) (by lcg_src) ?_ | refine cend2 (by assumption) (by assumption) (by ktn_open) (by dsimp only; first | exact off9 | lia) (by dsimp only; first | exact off9 | lia) (by lcg_src) ?_)) | ((with_reducible show UnrEnd _ _ _ _ _ _ _); k_dflt (refine UnrEnd.intro (by assumption) (by assumption) _ (fun p hp => hp) (by first | exact off_lt (by assumption) | exact off_ltA (by assumption)) ?_)) | ((k_here; (with_reducible show wpAny _ _ (subscriptTail _ _ (Value.ref _) (Value.int _ _)) _ _ _); k_dflt (first | (refine' item_mem0 (by k_asm) (by k_mem) (by lia) ?_ (by with_unfolding_all rfl); k_whole) | (refine' item_mem1 (by k_asm) (by k_mem) (by lia) ?_ (by with_unfolding_all rfl); k_whole) | (refine' item_mem2 (by k_asm) (by k_mem) (by lia) ?_ (by with_unfolding_all rfl); k_whole)))) | ((with_reducible show KasNext _ _ _ _ _); k_dflt (first | refine kas_nextD (b' := false) (by first | rfl | (simp only [decide_eq_false_iff_not]; lia)) ?_ | refine kas_nextD (b' := true) (by first | rfl | (simp only [decide_eq_true_eq]; lia)) ?_); kas_known) | ((with_reducible show KatGo _ _ _ _ _ _ _ _ _ _ _ _); k_dflt (first | refine kat_goD (e' := false) (by simp only [beq_eq_false_iff_ne, ne_eq]; lia) ?_ | refine kat_goD (e' := true) (by simp only [beq_iff_eq]; lia) ?_)) | ((k_here; (with_reducible show wpAny _ _ (call (Value.builtin _) [Value.ref _]) _ _ _); k_dflt ((with_reducible rename News _ _ _ _ => nS'); (try simp only [List.push_toArray, List.cons_append, List.nil_append] at nS'); (first | ((with_unfolding_all refine' kat_sorted (by k_asm) nS' (isl nS' (by k_mem)) (by exact Nat.le_of_ble_eq_true rfl) (by exact Nat.le_of_ble_eq_true rfl) ?_; k_whole); intro D' e' h' F' N' l1; (try k_lt l1); kat_kinds) | ((refine' sorted_one (by k_asm) nS' (isl nS' (by k_mem)) ?_; k_whole); intro D' c' h' F' N' l1; (try k_lt l1); (try dsimp only)))))) | (with_reducible ((k_here; (with_reducible show wpAny _ _ (subscriptTail _ (Expr.Slice _ _ none _) (Value.bytes _ _) (Value.ref _)) _ _ _); (with_reducible rename Fr _ _ _ _ => F'); (with_reducible rename News _ _ _ _ => N'); (first | (refine sliceIJ (s := ⟨_, _, _, _, _⟩) F' N' (by assumption) (by lia) (by lia) (by first | lia | (simp only [List.length_append, List.length_take, List.length_drop, List.length_cons, List.length_nil]; lia)) (by lia) ?_ (by with_unfolding_all rfl) (by intro _; with_unfolding_all rfl)) | (refine sliceI (s := ⟨_, _, _, _, _⟩) F' N' (by assumption) (by lia) (by first | lia | (simp only [List.length_append, List.length_take, List.length_drop, List.length_cons, List.length_nil]; lia)) (by lia) ?_ (by with_unfolding_all rfl) (by intro _; with_unfolding_all rfl)) | (refine sliceJ (s := ⟨_, _, _, _, _⟩) F' N' (by assumption) (by lia) (by first | lia | (simp only [List.length_append, List.length_take, List.length_drop, List.length_cons, List.length_nil]; lia)) (by lia) ?_ (by with_unfolding_all rfl) (by intro _; with_unfolding_all rfl))); intro bS' hS' tS' kS' fS' nS' eS'; clear F' N'))) | (k_unfold; (try dsimp only)) | (k_unmd; k_unfold; (try dsimp only)) | (k_end; wrow_close) | walk1 | (dsimp only; walk1) | (leave1; walk_say "STEP leave1"; try dsimp only) | fail "no step"))
  all_goals (refine dict2_w (by assumption) (by assumption) (by assumption) (by repeat (first | exact List.mem_cons_self | apply List.mem_cons_of_mem)) (by repeat (first | exact List.mem_cons_self | apply List.mem_cons_of_mem)) (by repeat (first | exact List.mem_cons_self | apply List.mem_cons_of_mem)) (by ktr_room) (by ktr_room) ?_)
  all_goals intro aD hD tD FD ND neD
  all_goals (repeat' (first | ((with_reducible show PyProof.Rows.LCg.CompEnd _ _ _ _ _ _ _ _ _ _ _ _ _ _); k_dflt (first | refine cend0 (by assumption) (by assumption) (by ktn_open) (by lcg_src) ?_ | refine cend1 (by assumption) (by assumption) (by ktn_open) (by dsimp only; first | exact off9 | lia) (by lcg_src) ?_ | refine cend2 (by assumption) (by assumption) (by ktn_open) (by dsimp only; first | exact off9 | lia) (by dsimp only; first | exact off9 | lia) (by lcg_src) ?_)) | ((with_reducible show UnrEnd _ _ _ _ _ _ _); k_dflt (refine UnrEnd.intro (by assumption) (by assumption) _ (fun p hp => hp) (by first | exact off_lt (by assumption) | exact off_ltA (by assumption)) ?_)) | ((k_here; (with_reducible show wpAny _ _ (subscriptTail _ _ (Value.ref _) (Value.int _ _)) _ _ _); k_dflt (first | (refine' item_mem0 (by k_asm) (by k_mem) (by lia) ?_ (by with_unfolding_all rfl); k_whole) | (refine' item_mem1 (by k_asm) (by k_mem) (by lia) ?_ (by with_unfolding_all rfl); k_whole) | (refine' item_mem2 (by k_asm) (by k_mem) (by lia) ?_ (by with_unfolding_all rfl); k_whole)))) | ((with_reducible show KasNext _ _ _ _ _); k_dflt (first | refine kas_nextD (b' := false) (by first | rfl | (simp only [decide_eq_false_iff_not]; lia)) ?_ | refine kas_nextD (b' := true) (by first | rfl | (simp only [decide_eq_true_eq]; lia)) ?_); kas_known) | ((with_reducible show KatGo _ _ _ _ _ _ _ _ _ _ _ _); k_dflt (first | refine kat_goD (e' := false) (by simp only [beq_eq_false_iff_ne, ne_eq]; lia) ?_ | refine kat_goD (e' := true) (by simp only [beq_iff_eq]; lia) ?_)) | ((k_here; (with_reducible show wpAny _ _ (call (Value.builtin _) [Value.ref _]) _ _ _); k_dflt ((with_reducible rename News _ _ _ _ => nS'); (try simp only [List.push_toArray, List.cons_append, List.nil_append] at nS'); (first | ((with_unfolding_all refine' kat_sorted (by k_asm) nS' (isl nS' (by k_mem)) (by exact Nat.le_of_ble_eq_true rfl) (by exact Nat.le_of_ble_eq_true rfl) ?_; k_whole); intro D' e' h' F' N' l1; (try k_lt l1); kat_kinds) | ((refine' sorted_one (by k_asm) nS' (isl nS' (by k_mem)) ?_; k_whole); intro D' c' h' F' N' l1; (try k_lt l1); (try dsimp only)))))) | (with_reducible ((k_here; (with_reducible show wpAny _ _ (subscriptTail _ (Expr.Slice _ _ none _) (Value.bytes _ _) (Value.ref _)) _ _ _); (with_reducible rename Fr _ _ _ _ => F'); (with_reducible rename News _ _ _ _ => N'); (first | (refine sliceIJ (s := ⟨_, _, _, _, _⟩) F' N' (by assumption) (by lia) (by lia) (by first | lia | (simp only [List.length_append, List.length_take, List.length_drop, List.length_cons, List.length_nil]; lia)) (by lia) ?_ (by with_unfolding_all rfl) (by intro _; with_unfolding_all rfl)) | (refine sliceI (s := ⟨_, _, _, _, _⟩) F' N' (by assumption) (by lia) (by first | lia | (simp only [List.length_append, List.length_take, List.length_drop, List.length_cons, List.length_nil]; lia)) (by lia) ?_ (by with_unfolding_all rfl) (by intro _; with_unfolding_all rfl)) | (refine sliceJ (s := ⟨_, _, _, _, _⟩) F' N' (by assumption) (by lia) (by first | lia | (simp only [List.length_append, List.length_take, List.length_drop, List.length_cons, List.length_nil]; lia)) (by lia) ?_ (by with_unfolding_all rfl) (by intro _; with_unfolding_all rfl))); intro bS' hS' tS' kS' fS' nS' eS'; clear F' N'))) | (k_unfold; (try dsimp only)) | (k_unmd; k_unfold; (try dsimp only)) | (k_end; wrow_close) | walk1 | (dsimp only; walk1) | (leave1; walk_say "STEP leave1"; try dsimp only) | fail "no step"))
  all_goals exact hret _ _ _ _ _ _ _ _ _ (by assumption) (News.sub (by assumption) (fun p hp => by
    rcases List.mem_cons.mp hp with rfl | hp
    · exact List.mem_cons_self
    · exact List.mem_cons_of_mem _ (mem_tail4 hp))) (fun p hp => neD p (mem_tail4 hp)) (tk_of (by assumption)) (tk_of (by assumption))
end
end
section
theorem part11 : True := by
  w_top off
  trivial
theorem range_small {a b c : Int} {n : Nat} (hn : Builtin.Range.rangeSize a b c = (n : Int)) (h1 : -1073741824 ≤ a) (h2 : a ≤ 1073741824) (h3 : -1073741824 ≤ b) (h4 : b ≤ 1073741824) (h5 : -64 ≤ c) (h6 : c ≤ 64) (h7 : n ≤ 1073741824) : Builtin.Range.small a b c = true := by
  simp only [Builtin.Range.small, hn, Builtin.Range.rangeFitsLong, Bool.and_eq_true, Bool.or_eq_true, decide_eq_true_eq]
  refine ⟨⟨⟨⟨?_, ?_⟩, ?_⟩, ?_⟩, .inr ?_⟩
  all_goals try lia
  split <;> (simp only [decide_eq_true_eq, Bool.and_eq_true]; lia)
theorem tg_of {ks : List Int} {x y : Int} {b : Bool} (e : x = y) (h : (ks.drop y.toNat).take 4 = tagCodes b) : (ks.drop x.toNat).take 4 = tagCodes b := e ▸ h
theorem tag_f : tagStr false = Str.ofString "cmap" := rfl
theorem tag_t : tagStr true = Str.ofString "post" := rfl
theorem beg_of {ks : List Int} {v i w u bg : Int} (h : v = beL ((ks.drop (i + u).toNat).take 4)) (e : i = w) (k : beL ((ks.drop (w + u).toNat).take 4) = bg) : v = bg := by subst e; exact h.trans k
/-- the two good directories -/
inductive RrTail (w : World) (h₀ : Heap) (L : Addr) (m : Str → Option Value) (news : List (Addr × Obj)) (s : Shared) (ks : List Int) (b : Int) (Q : Value → Shared → Prop) (k : Int) : Prop
  | one (w1 bg1 ln1 : Int) (hk1 : k = 1) (bq1 : beL ((ks.drop (w1 + 8).toNat).take 4) = bg1) (lq1 : beL ((ks.drop (w1 + 12).toNat).take 4) = ln1) (lz1 : 0 ≤ ln1) (be1 : bg1 + ln1 ≤ (ks.length : Int)) (tg1 : (ks.drop w1.toNat).take 4 = tagCodes false) (hw1 : b + 12 + 0 = w1) (hpos : ln1 = 0 ∨ (0 < ln1 ∧ bg1 + ln1 ≤ b) ∨ (0 < ln1 ∧ b + (12 + 16 * 1) ≤ bg1)) (hret : ∀ tp rl z1 dz1 wh1 y1 a1 b1 c1 e1 f1 g1 o1 p1 q1 r1 v tv h' tk', v = beL ((ks.drop b.toNat).take 4) → Fr h₀ L h' m → News h₀ L h' ((tp, ({ cls := .type "tuple", data := .seq #[.int v tv, .ref rl] } : Obj)) :: (rl, PyProof.Rows.LCg.lst [.ref z1]) :: (z1, instObj 209 dz1) :: (dz1, dictOf [⟨PyData.keyHash w.params (Str.ofString "tag"), .str (Str.ofString "tag") a1, .str (Str.ofString "cmap") b1⟩, ⟨PyData.keyHash w.params (Str.ofString "total"), .str (Str.ofString "total") c1, .int y1 e1⟩, ⟨PyData.keyHash w.params (Str.ofString "begin"), .str (Str.ofString "begin") f1, .int bg1 g1⟩, ⟨PyData.keyHash w.params (Str.ofString "length"), .str (Str.ofString "length") o1, .int ln1 p1⟩, ⟨PyData.keyHash w.params (Str.ofString "where"), .str (Str.ofString "where") q1, .int wh1 r1⟩] 5) :: news) → (∀ p ∈ news, @LT.lt Nat _ p.1 tp) → (∀ p ∈ news, p.1 ≠ rl) → (∀ p ∈ news, @LT.lt Nat _ p.1 dz1) → Q (.ref tp) { s with heap := h', toks := tk' }) : RrTail w h₀ L m news s ks b Q k
  | two (w1 bg1 ln1 w2 bg2 ln2 : Int) (hk2 : k = 2) (bq1 : beL ((ks.drop (w1 + 8).toNat).take 4) = bg1) (lq1 : beL ((ks.drop (w1 + 12).toNat).take 4) = ln1) (lz1 : 0 ≤ ln1) (be1 : bg1 + ln1 ≤ (ks.length : Int)) (tg1 : (ks.drop w1.toNat).take 4 = tagCodes false) (hw1 : b + 12 + 0 = w1) (bq2 : beL ((ks.drop (w2 + 8).toNat).take 4) = bg2) (lq2 : beL ((ks.drop (w2 + 12).toNat).take 4) = ln2) (lz2 : 0 ≤ ln2) (be2 : bg2 + ln2 ≤ (ks.length : Int)) (tg2 : (ks.drop w2.toNat).take 4 = tagCodes true) (hw2 : b + 12 + 16 = w2) (h12 : bg1 + ln1 = bg2) (hpos : bg2 + ln2 ≤ b ∨ b + (12 + 16 * 2) ≤ bg1) (hret : ∀ tp rl z1 dz1 wh1 y1 a1 b1 c1 e1 f1 g1 o1 p1 q1 r1 z2 dz2 wh2 y2 a2 b2 c2 e2 f2 g2 o2 p2 q2 r2 v tv h' tk', v = beL ((ks.drop b.toNat).take 4) → Fr h₀ L h' m → News h₀ L h' ((tp, ({ cls := .type "tuple", data := .seq #[.int v tv, .ref rl] } : Obj)) :: (rl, PyProof.Rows.LCg.lst [.ref z1, .ref z2]) :: (z2, instObj 209 dz2) :: (dz2, dictOf [⟨PyData.keyHash w.params (Str.ofString "tag"), .str (Str.ofString "tag") a2, .str (Str.ofString "post") b2⟩, ⟨PyData.keyHash w.params (Str.ofString "total"), .str (Str.ofString "total") c2, .int y2 e2⟩, ⟨PyData.keyHash w.params (Str.ofString "begin"), .str (Str.ofString "begin") f2, .int bg2 g2⟩, ⟨PyData.keyHash w.params (Str.ofString "length"), .str (Str.ofString "length") o2, .int ln2 p2⟩, ⟨PyData.keyHash w.params (Str.ofString "where"), .str (Str.ofString "where") q2, .int wh2 r2⟩] 5) :: (z1, instObj 209 dz1) :: (dz1, dictOf [⟨PyData.keyHash w.params (Str.ofString "tag"), .str (Str.ofString "tag") a1, .str (Str.ofString "cmap") b1⟩, ⟨PyData.keyHash w.params (Str.ofString "total"), .str (Str.ofString "total") c1, .int y1 e1⟩, ⟨PyData.keyHash w.params (Str.ofString "begin"), .str (Str.ofString "begin") f1, .int bg1 g1⟩, ⟨PyData.keyHash w.params (Str.ofString "length"), .str (Str.ofString "length") o1, .int ln1 p1⟩, ⟨PyData.keyHash w.params (Str.ofString "where"), .str (Str.ofString "where") q1, .int wh1 r1⟩] 5) :: news) → (∀ p ∈ news, @LT.lt Nat _ p.1 tp) → (∀ p ∈ news, p.1 ≠ rl) → (∀ p ∈ news, @LT.lt Nat _ p.1 dz1) → Q (.ref tp) { s with heap := h', toks := tk' }) : RrTail w h₀ L m news s ks b Q k
theorem RrTail.split {w : World} {h₀ : Heap} {L : Addr} {m : Str → Option Value} {news : List (Addr × Obj)} {s : Shared} {ks : List Int} {b k : Int} {Q : Value → Shared → Prop} (h : RrTail w h₀ L m news s ks b Q k) : 1 ≤ k ∧ k ≤ 2 := by
  cases h <;> (subst k; decide)
inductive RrGo (w : World) (h₀ : Heap) (L : Addr) (m : Str → Option Value) (news : List (Addr × Obj)) (s : Shared) (ks : List Int) (b : Int) (Q : Value → Shared → Prop) (E : Value → Shared → Prop) (base : Heap) (env : List Env) : Prop
  | vers (hv : ¬verOk (beL ((ks.drop b.toNat).take 4))) (hrai : ∀ e h' tk' G, Fr h₀ L G m → RaisedN base (env) e (.ref 73) (news) h' → G.UpToSlots h' → E (.ref e) { s with heap := h', toks := tk' }) : RrGo w h₀ L m news s ks b Q E base env
  | good (k : Int) (hk1 : 1 ≤ k) (hk2 : k ≤ 2) (h2 : b + 12 + 16 * k ≤ (ks.length : Int)) (hv : verOk (beL ((ks.drop b.toNat).take 4))) (hcnt : beL ((ks.drop (b + 4).toNat).take 2) = k) (ht : RrTail w h₀ L m news s ks b Q k) : RrGo w h₀ L m news s ks b Q E base env
inductive RrWay (w : World) (h₀ : Heap) (L : Addr) (m : Str → Option Value) (news : List (Addr × Obj)) (s : Shared) (ks : List Int) (b : Int) (Q : Value → Shared → Prop) (E : Value → Shared → Prop) (base : Heap) (env : List Env) : Prop
  | short (h1 : (ks.length : Int) < b + 12) (hrai : ∀ e h' tk' G, Fr h₀ L G m → RaisedN base (env) e (.ref 73) (news) h' → G.UpToSlots h' → E (.ref e) { s with heap := h', toks := tk' }) : RrWay w h₀ L m news s ks b Q E base env
  | on (h1 : b + 12 ≤ (ks.length : Int)) (hw : RrGo w h₀ L m news s ks b Q E base env) : RrWay w h₀ L m news s ks b Q E base env
section
variable {w : World} {mean : ExcName → Option Value} {mg mb : Str → Option Value} {dp un : Nat} {gd : Option (List Code)} {cn : Str} {cs : Scope} {a : Addr} {ccd : Value} {cl : List (Str × Addr)} {outer : List Env} {A₀ : Around} {base h₀ : Heap} {L : Addr} {m : Str → Option Value} {s : Shared} {Q E : Value → Shared → Prop}
theorem drops1 {a b c e x d y : Addr × Obj} {news : List (Addr × Obj)} : ∀ p ∈ a :: b :: c :: e :: news, p ∈ a :: b :: c :: e :: x :: d :: y :: news := fun p hp => by
  refine List.subset_def.mp ?_ hp
  repeat (first | refine List.cons_subset.mpr ⟨by repeat (first | exact .head _ | refine .tail _ ?_), ?_⟩ | refine List.append_subset.mpr ⟨?_, ?_⟩)
  all_goals first | exact List.nil_subset _ | exact fun _ h => by repeat (first | exact h | exact List.mem_append_left _ h | refine .tail _ ?_ | refine List.mem_append_right _ ?_)
theorem drops2 {a b c e f g x d y : Addr × Obj} {news : List (Addr × Obj)} : ∀ p ∈ a :: b :: c :: e :: f :: g :: news, p ∈ a :: b :: c :: e :: f :: g :: x :: d :: y :: news := fun p hp => by
  refine List.subset_def.mp ?_ hp
  repeat (first | refine List.cons_subset.mpr ⟨by repeat (first | exact .head _ | refine .tail _ ?_), ?_⟩ | refine List.append_subset.mpr ⟨?_, ?_⟩)
  all_goals first | exact List.nil_subset _ | exact fun _ h => by repeat (first | exact h | exact List.mem_append_left _ h | refine .tail _ ?_ | refine List.mem_append_right _ ?_)
set_option maxRecDepth 100000 in
set_option maxHeartbeats 16000000 in
theorem rr_c {d : Array UInt8} {ks : List Int} {b : Int} {t1 t2 : Tok} {news : List (Addr × Obj)}
  (B : Below A₀ base outer h₀) (F : Fr h₀ L s.heap m) (X : (Mine.hd.heap_39 w.params).In h₀) (N : News h₀ L s.heap (news)) (T : Top Mine.hd.view_39 (looseW Mine.hd.view_39 [Str.ofString "ShapeError", Str.ofString "VERSIONS"]) mean mg mb h₀) (hk : cs.kind = .function)
  (hks : KBw.bInts d = ks) (hs : ks.length ≤ 1048576) (h0 : 0 ≤ b) (hd : dp + 40 ≤ 450) (hu : un + 320 ≤ 1800) (hw : RrWay w h₀ L m news s ks b Q E base (envX cn cs L a ccd cl :: outer)) :
  wpAny (model PySem.Challenge.rw_pb0178_01.row.prog w) (ktrTop dp un gd cn cs L a ccd cl outer) (call (.ref 244) [.bytes d t1, .int b t2]) Q E s := by
  refine wpAny_call ?_
  k_dflt (refine' code_defC ?k1 ?k2 ?k3 ?k4 ?k5 ?kA ?kF ?kK ?k6 ?k7 ?k8 ?k9 ?kB ?kD ?_ ?c2 ?c3 ?c4; (case kA => exact rfl); (case kF => exact rfl); (case kK => assumption); (case k1 => k_asm); (case k2 => k_asm); (case k3 => k_asm); (case k4 => k_asm); (case k5 => k_asm); (case k6 => k_is); (case k7 => k_is); (case k8 => ktr_room); (case k9 => exact BindsTo.of_eq rfl); (case kB => exact rfl); (case kD => decide +kernel); (case c2 => exact rfl); (case c3 => exact rfl); (case c4 => exact rfl); k_whole; intro g' L' h' tk' cells' FG' F' N' Y' B' X' T' l1; (try k_lt l1); k_cells Y'; (try simp only [List.cons_append, List.nil_append] at N'); (try dsimp only); (try k_fold))
  cases hw
  case' short h1 hrai => skip
  case' on h1 hw =>
    repeat' (first | ((fail_if_success (with_reducible show wpAny _ _ (compareOp CmpOp.NotIn _ _) _ _ _)); (first | ((with_reducible show PyProof.Rows.LCg.CompRest _ _ _ _ _ _ _ _ _ _ _ _ _ _ _ _ _ _ _); (with_unfolding_all (refine PyProof.Rows.LCg.CompRest.succ ?_; intro v' I' oI' C' oC' D' m' h' tk' E' hv' hC' hx' F' N' off' ne'; (obtain ⟨t9', hv9'⟩ := hv'); subst hv9'))) | ((with_reducible show wpAny _ _ (exec (Stmt.Assign _ (Expr.ListComp _ _ _ _) _) _) _ _ _); (k_here; k_dflt (refine Assign_ListComp_W (F₀ := by k_asm) rfl (by with_unfolding_all rfl) (by with_unfolding_all rfl) (by decide) (by rfl) (by decide) (by rfl) (by rfl) (by rfl) (by intro _; with_unfolding_all rfl) ?_))) | ((k_here; k_dflt ((with_reducible show wpAny _ _ (PySem.call (Value.ref 239) _ _) _ _ _); (refine' na2_c (by k_asm) (by k_asm) (by k_asm) (by k_asm) (by k_asm) (by first | exact rfl | assumption) (by first | k_mem | (repeat (first | exact List.mem_cons_self | apply List.mem_cons_of_mem))) (by first | k_mem | (repeat (first | exact List.mem_cons_self | apply List.mem_cons_of_mem))) (by first | k_mem | (repeat (first | exact List.mem_cons_self | apply List.mem_cons_of_mem))) (by first | k_mem | (repeat (first | exact List.mem_cons_self | apply List.mem_cons_of_mem))) (by first | k_mem | (repeat (first | exact List.mem_cons_self | apply List.mem_cons_of_mem))) (by cb_room) (by cb_room) (by cb_room) (by cb_room) (by cb_room) (by ktr_room) (by ktr_units) ?_); intro h9 tk9 F9 N9; (try dsimp only); (try k_fold)))) | ((k_here; k_dflt ((with_reducible show wpAny _ _ (PySem.call (Value.ref 234) _ _) _ _ _); (refine' nio2_c (by k_asm) (by k_asm) (by k_asm) (by k_asm) (by k_asm) (by first | exact rfl | assumption) (by first | k_mem | (repeat (first | exact List.mem_cons_self | apply List.mem_cons_of_mem))) (by first | k_mem | (repeat (first | exact List.mem_cons_self | apply List.mem_cons_of_mem))) (by first | k_mem | (repeat (first | exact List.mem_cons_self | apply List.mem_cons_of_mem))) (by first | k_mem | (repeat (first | exact List.mem_cons_self | apply List.mem_cons_of_mem))) (by first | k_mem | (repeat (first | exact List.mem_cons_self | apply List.mem_cons_of_mem))) (by cb_room) (by cb_room) (by ktr_room) (by ktr_units) ?_); intro h9 tk9 F9 N9; (try dsimp only); (try k_fold)))) | ((k_here; k_dflt ((with_reducible show wpAny _ _ (PySem.call (Value.ref 239) _ _) _ _ _); (refine' na1_c (by k_asm) (by k_asm) (by k_asm) (by k_asm) (by k_asm) (by first | exact rfl | assumption) (by first | k_mem | (repeat (first | exact List.mem_cons_self | apply List.mem_cons_of_mem))) (by first | k_mem | (repeat (first | exact List.mem_cons_self | apply List.mem_cons_of_mem))) (by first | k_mem | (repeat (first | exact List.mem_cons_self | apply List.mem_cons_of_mem))) (by cb_room) (by cb_room) (by cb_room) (by ktr_room) (by ktr_units) ?_); intro h9 tk9 F9 N9; (try dsimp only); (try k_fold)))) | ((k_here; k_dflt ((with_reducible show wpAny _ _ (PySem.call (Value.ref 234) _ _) _ _ _); (refine' nio1_c (by k_asm) (by k_asm) (by k_asm) (by k_asm) (by k_asm) (by first | exact rfl | assumption) (by first | k_mem | (repeat (first | exact List.mem_cons_self | apply List.mem_cons_of_mem))) (by first | k_mem | (repeat (first | exact List.mem_cons_self | apply List.mem_cons_of_mem))) (by first | k_mem | (repeat (first | exact List.mem_cons_self | apply List.mem_cons_of_mem))) (by cb_room) (by ktr_room) (by ktr_units) ?_); intro h9 tk9 F9 N9; (try dsimp only); (try k_fold)))) | ((with_reducible show PyProof.Rows.LCg.CompEnd _ _ _ _ _ _ _ _ _ _ _ _ _ _); k_dflt (first | refine cend0 (by assumption) (by assumption) (by ktn_open) (by lcg_src) ?_ | refine cend1 (by assumption) (by assumption) (by ktn_open) (by dsimp only; first | exact off9 | lia) (by lcg_src) ?_ | refine cend2 (by assumption) (by assumption) (by ktn_open) (by dsimp only; first | exact off9 | lia) (by dsimp only; first | exact off9 | lia) (by lcg_src) ?_)) | ((k_here; k_dflt ((with_reducible show wpAny _ _ (PySem.call (Value.ref 227) _ _) _ _ _); (refine' record_c (by k_asm) (by k_asm) (by k_asm) (by k_asm) (by k_asm) (by first | exact rfl | assumption) (by first | assumption | exact rfl) (by cb_room) (by cb_room) (by cb_room) (by first | exact tg_of (by assumption) (by assumption)) (by ktr_room) (by ktr_units) ?_); intro z9 dz9 sv9 y9 bg9 ln9 a9 b9 c9 e9 f9 g9 o9 p9 q9 r9 h9 tk9 hs9 hb9 hl9 hlt9 hdz9 F9 N9; (try k_lt hlt9); (first | have hs8 := Eq.trans hs9 tag_f | have hs8 := Eq.trans hs9 tag_t); subst hs8; (have hb8 := beg_of hb9 (by assumption) (by assumption)); subst hb8; (have hl8 := beg_of hl9 (by assumption) (by assumption)); subst hl8; (try dsimp only); (try k_fold)))) | ((k_here; k_dflt ((with_reducible show wpAny _ _ (PySem.call (Value.ref 139) _ _) _ _ _); (refine' u16_c (by k_asm) (by k_asm) (by k_asm) (by k_asm) (by k_asm) (by first | exact rfl | assumption) (by ktr_rel) (by cb_room) (by first | assumption | exact rfl) (by cb_room) (by first | cb_room | (simp only [List.length_append, List.length_take, List.length_drop, List.length_cons, List.length_nil]; lia)) (by cb_room) (by ktr_room) (by ktr_units) ?_); intro v9 t9 t8 h9 tk9 e9 F9 N9; (have e8 := Eq.trans e9 (by assumption)); subst e8; (try dsimp only); (try k_fold)))) | ((k_here; k_dflt ((with_reducible show wpAny _ _ (PySem.call (Value.ref 89) _ _) _ _ _); (refine' number_c (by k_asm) (by k_asm) (by k_asm) (by k_asm) (by k_asm) (by first | exact rfl | assumption) (by first | assumption | exact rfl) (by cb_room) (by cb_room) (by first | cb_room | (simp only [List.length_append, List.length_take, List.length_drop, List.length_cons, List.length_nil]; lia)) (by cb_room) (by cb_room) (by ktr_room) (by ktr_units) ?_); intro v9 t9 h9 tk9 e9 F9 N9; (try dsimp only); (try k_fold)))) | ((with_reducible show wpAny _ _ (compareOp CmpOp.NotIn (Value.int _ _) (Value.ref _)) _ _ _); (k_here; k_dflt ((with_reducible show wpAny _ _ (compareOp CmpOp.NotIn (Value.int _ _) (Value.ref 185)) _ _ _); (first | refine notin_ver (by assumption) (by assumption) (ver_yes (by assumption) (by assumption)) ?_ | refine notin_ver (by assumption) (by assumption) (ver_no (by assumption) (by assumption)) ?_); (try dsimp only [Bool.not_true, Bool.not_false])))) | ((with_reducible show wpAny _ _ (leaving _ _) _ _ _); k_dflt (refine rf_first (by assumption) (by assumption) (news_tail (by assumption)) rfl rfl (News.get (by assumption) (.head _)) (by assumption) (by assumption) (g_none (by assumption)) (g_ne (by assumption)) (by assumption) ?_; intro h8 R8 sm8)) | ((k_here; k_dflt ((with_reducible show wpAny _ _ (PySem.call (Value.ref 73) [Value.str _ _, Value.int _ _] _) _ _ _); (refine' ff_c (by k_asm) (by k_asm) (by k_asm) (by k_asm) (by k_asm) (by first | exact rfl | assumption) (by ktr_room) (by ktr_room) ?_); intro e9 h9 tk9 o9 t9 F9 N9 ne9 hc9 hd9; (refine ⟨_, _, _, rfl, in73F (by k_asm) F9, (N9 _ (.head _)).1, hc9, hd9, ?_⟩)))) | ((with_reducible show wpAny _ _ (exec (Stmt.Raise (some _) none _) _) _ _ _); (k_here; k_dflt (refine Raise_F rfl ?_))) | (with_reducible ((k_here; (with_reducible show wpAny _ _ (subscriptTail _ (Expr.Slice _ _ none _) (Value.bytes _ _) (Value.ref _)) _ _ _); (with_reducible rename Fr _ _ _ _ => F'); (with_reducible rename News _ _ _ _ => N'); (first | (refine sliceIJ (s := ⟨_, _, _, _, _⟩) F' N' (by assumption) (by lia) (by lia) (by first | lia | (simp only [List.length_append, List.length_take, List.length_drop, List.length_cons, List.length_nil]; lia)) (by lia) ?_ (by with_unfolding_all rfl) (by intro _; with_unfolding_all rfl)) | (refine sliceI (s := ⟨_, _, _, _, _⟩) F' N' (by assumption) (by lia) (by first | lia | (simp only [List.length_append, List.length_take, List.length_drop, List.length_cons, List.length_nil]; lia)) (by lia) ?_ (by with_unfolding_all rfl) (by intro _; with_unfolding_all rfl)) | (refine sliceJ (s := ⟨_, _, _, _, _⟩) F' N' (by assumption) (by lia) (by first | lia | (simp only [List.length_append, List.length_take, List.length_drop, List.length_cons, List.length_nil]; lia)) (by lia) ?_ (by with_unfolding_all rfl) (by intro _; with_unfolding_all rfl))); intro bS' hS' tS' kS' fS' nS' eS'; clear F' N'))) | (k_unfold; (try dsimp only)) | (k_unmd; k_unfold; (try dsimp only)) | (k_end; wrow_close) | walk1 | (dsimp only; walk1))))
    cases hw
    case' vers hv hrai => skip
    case' good k hk1 hk2 h2 hv hcnt ht =>
      (repeat' (first | ((with_reducible show PyProof.Rows.LCg.CompRest _ _ _ _ _ _ _ _ _ _ _ _ _ _ _ _ _ _ _); (with_unfolding_all (refine PyProof.Rows.LCg.CompRest.succ ?_; intro v' I' oI' C' oC' D' m' h' tk' E' hv' hC' hx' F' N' off' ne'; (obtain ⟨t9', hv9'⟩ := hv'); subst hv9'))) | ((with_reducible show wpAny _ _ (exec (Stmt.Assign _ (Expr.ListComp _ _ _ _) _) _) _ _ _); (k_here; k_dflt (refine Assign_ListComp_W (F₀ := by k_asm) rfl (by with_unfolding_all rfl) (by with_unfolding_all rfl) (by decide) (by rfl) (by decide) (by rfl) (by rfl) (by rfl) (by intro _; with_unfolding_all rfl) ?_))) | ((k_here; k_dflt ((with_reducible show wpAny _ _ (PySem.call (Value.ref 239) _ _) _ _ _); (refine' na2_c (by k_asm) (by k_asm) (by k_asm) (by k_asm) (by k_asm) (by first | exact rfl | assumption) (by first | k_mem | (repeat (first | exact List.mem_cons_self | apply List.mem_cons_of_mem))) (by first | k_mem | (repeat (first | exact List.mem_cons_self | apply List.mem_cons_of_mem))) (by first | k_mem | (repeat (first | exact List.mem_cons_self | apply List.mem_cons_of_mem))) (by first | k_mem | (repeat (first | exact List.mem_cons_self | apply List.mem_cons_of_mem))) (by first | k_mem | (repeat (first | exact List.mem_cons_self | apply List.mem_cons_of_mem))) (by cb_room) (by cb_room) (by cb_room) (by cb_room) (by cb_room) (by ktr_room) (by ktr_units) ?_); intro h9 tk9 F9 N9; (try dsimp only); (try k_fold)))) | ((k_here; k_dflt ((with_reducible show wpAny _ _ (PySem.call (Value.ref 234) _ _) _ _ _); (refine' nio2_c (by k_asm) (by k_asm) (by k_asm) (by k_asm) (by k_asm) (by first | exact rfl | assumption) (by first | k_mem | (repeat (first | exact List.mem_cons_self | apply List.mem_cons_of_mem))) (by first | k_mem | (repeat (first | exact List.mem_cons_self | apply List.mem_cons_of_mem))) (by first | k_mem | (repeat (first | exact List.mem_cons_self | apply List.mem_cons_of_mem))) (by first | k_mem | (repeat (first | exact List.mem_cons_self | apply List.mem_cons_of_mem))) (by first | k_mem | (repeat (first | exact List.mem_cons_self | apply List.mem_cons_of_mem))) (by cb_room) (by cb_room) (by ktr_room) (by ktr_units) ?_); intro h9 tk9 F9 N9; (try dsimp only); (try k_fold)))) | ((k_here; k_dflt ((with_reducible show wpAny _ _ (PySem.call (Value.ref 239) _ _) _ _ _); (refine' na1_c (by k_asm) (by k_asm) (by k_asm) (by k_asm) (by k_asm) (by first | exact rfl | assumption) (by first | k_mem | (repeat (first | exact List.mem_cons_self | apply List.mem_cons_of_mem))) (by first | k_mem | (repeat (first | exact List.mem_cons_self | apply List.mem_cons_of_mem))) (by first | k_mem | (repeat (first | exact List.mem_cons_self | apply List.mem_cons_of_mem))) (by cb_room) (by cb_room) (by cb_room) (by ktr_room) (by ktr_units) ?_); intro h9 tk9 F9 N9; (try dsimp only); (try k_fold)))) | ((k_here; k_dflt ((with_reducible show wpAny _ _ (PySem.call (Value.ref 234) _ _) _ _ _); (refine' nio1_c (by k_asm) (by k_asm) (by k_asm) (by k_asm) (by k_asm) (by first | exact rfl | assumption) (by first | k_mem | (repeat (first | exact List.mem_cons_self | apply List.mem_cons_of_mem))) (by first | k_mem | (repeat (first | exact List.mem_cons_self | apply List.mem_cons_of_mem))) (by first | k_mem | (repeat (first | exact List.mem_cons_self | apply List.mem_cons_of_mem))) (by cb_room) (by ktr_room) (by ktr_units) ?_); intro h9 tk9 F9 N9; (try dsimp only); (try k_fold)))) | ((with_reducible show PyProof.Rows.LCg.CompEnd _ _ _ _ _ _ _ _ _ _ _ _ _ _); k_dflt (first | refine cend0 (by assumption) (by assumption) (by ktn_open) (by lcg_src) ?_ | refine cend1 (by assumption) (by assumption) (by ktn_open) (by dsimp only; first | exact off9 | lia) (by lcg_src) ?_ | refine cend2 (by assumption) (by assumption) (by ktn_open) (by dsimp only; first | exact off9 | lia) (by dsimp only; first | exact off9 | lia) (by lcg_src) ?_)) | ((k_here; k_dflt ((with_reducible show wpAny _ _ (PySem.call (Value.ref 227) _ _) _ _ _); (refine' record_c (by k_asm) (by k_asm) (by k_asm) (by k_asm) (by k_asm) (by first | exact rfl | assumption) (by first | assumption | exact rfl) (by cb_room) (by cb_room) (by cb_room) (by first | exact tg_of (by assumption) (by assumption)) (by ktr_room) (by ktr_units) ?_); intro z9 dz9 sv9 y9 bg9 ln9 a9 b9 c9 e9 f9 g9 o9 p9 q9 r9 h9 tk9 hs9 hb9 hl9 hlt9 hdz9 F9 N9; (try k_lt hlt9); (first | have hs8 := Eq.trans hs9 tag_f | have hs8 := Eq.trans hs9 tag_t); subst hs8; (have hb8 := beg_of hb9 (by assumption) (by assumption)); subst hb8; (have hl8 := beg_of hl9 (by assumption) (by assumption)); subst hl8; (try dsimp only); (try k_fold)))) | ((k_here; k_dflt ((with_reducible show wpAny _ _ (PySem.call (Value.ref 139) _ _) _ _ _); (refine' u16_c (by k_asm) (by k_asm) (by k_asm) (by k_asm) (by k_asm) (by first | exact rfl | assumption) (by ktr_rel) (by cb_room) (by first | assumption | exact rfl) (by cb_room) (by first | cb_room | (simp only [List.length_append, List.length_take, List.length_drop, List.length_cons, List.length_nil]; lia)) (by cb_room) (by ktr_room) (by ktr_units) ?_); intro v9 t9 t8 h9 tk9 e9 F9 N9; (have e8 := Eq.trans e9 (by assumption)); subst e8; (try dsimp only); (try k_fold)))) | ((k_here; k_dflt ((with_reducible show wpAny _ _ (PySem.call (Value.ref 89) _ _) _ _ _); (refine' number_c (by k_asm) (by k_asm) (by k_asm) (by k_asm) (by k_asm) (by first | exact rfl | assumption) (by first | assumption | exact rfl) (by cb_room) (by cb_room) (by first | cb_room | (simp only [List.length_append, List.length_take, List.length_drop, List.length_cons, List.length_nil]; lia)) (by cb_room) (by cb_room) (by ktr_room) (by ktr_units) ?_); intro v9 t9 h9 tk9 e9 F9 N9; (try dsimp only); (try k_fold)))) | ((with_reducible show wpAny _ _ (compareOp CmpOp.NotIn (Value.int _ _) (Value.ref _)) _ _ _); (k_here; k_dflt ((with_reducible show wpAny _ _ (compareOp CmpOp.NotIn (Value.int _ _) (Value.ref 185)) _ _ _); (first | refine notin_ver (by assumption) (by assumption) (ver_yes (by assumption) (by assumption)) ?_ | refine notin_ver (by assumption) (by assumption) (ver_no (by assumption) (by assumption)) ?_); (try dsimp only [Bool.not_true, Bool.not_false])))) | ((with_reducible show wpAny _ _ (leaving _ _) _ _ _); k_dflt (refine rf_first (by assumption) (by assumption) (news_tail (by assumption)) rfl rfl (News.get (by assumption) (.head _)) (by assumption) (by assumption) (g_none (by assumption)) (g_ne (by assumption)) (by assumption) ?_; intro h8 R8 sm8)) | ((k_here; k_dflt ((with_reducible show wpAny _ _ (PySem.call (Value.ref 73) [Value.str _ _, Value.int _ _] _) _ _ _); (refine' ff_c (by k_asm) (by k_asm) (by k_asm) (by k_asm) (by k_asm) (by first | exact rfl | assumption) (by ktr_room) (by ktr_room) ?_); intro e9 h9 tk9 o9 t9 F9 N9 ne9 hc9 hd9; (refine ⟨_, _, _, rfl, in73F (by k_asm) F9, (N9 _ (.head _)).1, hc9, hd9, ?_⟩)))) | ((with_reducible show wpAny _ _ (exec (Stmt.Raise (some _) none _) _) _ _ _); (k_here; k_dflt (refine Raise_F rfl ?_))) | (with_reducible ((k_here; (with_reducible show wpAny _ _ (subscriptTail _ (Expr.Slice _ _ none _) (Value.bytes _ _) (Value.ref _)) _ _ _); (with_reducible rename Fr _ _ _ _ => F'); (with_reducible rename News _ _ _ _ => N'); (first | (refine sliceIJ (s := ⟨_, _, _, _, _⟩) F' N' (by assumption) (by lia) (by lia) (by first | lia | (simp only [List.length_append, List.length_take, List.length_drop, List.length_cons, List.length_nil]; lia)) (by lia) ?_ (by with_unfolding_all rfl) (by intro _; with_unfolding_all rfl)) | (refine sliceI (s := ⟨_, _, _, _, _⟩) F' N' (by assumption) (by lia) (by first | lia | (simp only [List.length_append, List.length_take, List.length_drop, List.length_cons, List.length_nil]; lia)) (by lia) ?_ (by with_unfolding_all rfl) (by intro _; with_unfolding_all rfl)) | (refine sliceJ (s := ⟨_, _, _, _, _⟩) F' N' (by assumption) (by lia) (by first | lia | (simp only [List.length_append, List.length_take, List.length_drop, List.length_cons, List.length_nil]; lia)) (by lia) ?_ (by with_unfolding_all rfl) (by intro _; with_unfolding_all rfl))); intro bS' hS' tS' kS' fS' nS' eS'; clear F' N'))) | (k_unfold; (try dsimp only)) | (k_unmd; k_unfold; (try dsimp only)) | (k_end; wrow_close) | walk1 | (dsimp only; walk1) | (leave1; walk_say "STEP leave1"; try dsimp only) | fail "no step"))
      cases ht
      case' one w1 bg1 ln1 hk1 bq1 lq1 lz1 be1 tg1 hw1 hpos hret =>
        subst hk1
        ((refine' CompSrcW.mk (iter_range (n := 1) ?A ?B ?C ?D ?E ?F) ?G ?H ?I ?J ?K); (case A => assumption); (case B => exact (range_small (n := 1) (by simp [Builtin.Range.rangeSize]; lia) (by lia) (by lia) (by lia) (by lia) (by decide) (by decide) (by decide))); (case C => simp [Builtin.Range.rangeSize]; lia); (case D => rfl); (case E => k_asm); (case F => k_asm); (case G => k_asm); (case H => k_asm); (case I => decide); (case J => trivial); intro g')
      case' two w1 bg1 ln1 w2 bg2 ln2 hk2 bq1 lq1 lz1 be1 tg1 hw1 bq2 lq2 lz2 be2 tg2 hw2 h12 hpos hret =>
        subst hk2
        ((refine' CompSrcW.mk (iter_range (n := 2) ?A ?B ?C ?D ?E ?F) ?G ?H ?I ?J ?K); (case A => assumption); (case B => exact (range_small (n := 2) (by simp [Builtin.Range.rangeSize]; lia) (by lia) (by lia) (by lia) (by lia) (by decide) (by decide) (by decide))); (case C => simp [Builtin.Range.rangeSize]; lia); (case D => rfl); (case E => k_asm); (case F => k_asm); (case G => k_asm); (case H => k_asm); (case I => decide); (case J => trivial); intro g')
  (repeat' (first | ((with_reducible show PyProof.Rows.LCg.CompRest _ _ _ _ _ _ _ _ _ _ _ _ _ _ _ _ _ _ _); (with_unfolding_all (refine PyProof.Rows.LCg.CompRest.succ ?_; intro v' I' oI' C' oC' D' m' h' tk' E' hv' hC' hx' F' N' off' ne'; (obtain ⟨t9', hv9'⟩ := hv'); subst hv9'))) | ((with_reducible show wpAny _ _ (exec (Stmt.Assign _ (Expr.ListComp _ _ _ _) _) _) _ _ _); (k_here; k_dflt (refine Assign_ListComp_W (F₀ := by k_asm) rfl (by with_unfolding_all rfl) (by with_unfolding_all rfl) (by decide) (by rfl) (by decide) (by rfl) (by rfl) (by rfl) (by intro _; with_unfolding_all rfl) ?_))) | ((k_here; k_dflt ((with_reducible show wpAny _ _ (PySem.call (Value.ref 239) _ _) _ _ _); (refine' na2_c (by k_asm) (by k_asm) (by k_asm) (by k_asm) (by k_asm) (by first | exact rfl | assumption) (by first | k_mem | (repeat (first | exact List.mem_cons_self | apply List.mem_cons_of_mem))) (by first | k_mem | (repeat (first | exact List.mem_cons_self | apply List.mem_cons_of_mem))) (by first | k_mem | (repeat (first | exact List.mem_cons_self | apply List.mem_cons_of_mem))) (by first | k_mem | (repeat (first | exact List.mem_cons_self | apply List.mem_cons_of_mem))) (by first | k_mem | (repeat (first | exact List.mem_cons_self | apply List.mem_cons_of_mem))) (by cb_room) (by cb_room) (by cb_room) (by cb_room) (by cb_room) (by ktr_room) (by ktr_units) ?_); intro h9 tk9 F9 N9; (try dsimp only); (try k_fold)))) | ((k_here; k_dflt ((with_reducible show wpAny _ _ (PySem.call (Value.ref 234) _ _) _ _ _); (refine' nio2_c (by k_asm) (by k_asm) (by k_asm) (by k_asm) (by k_asm) (by first | exact rfl | assumption) (by first | k_mem | (repeat (first | exact List.mem_cons_self | apply List.mem_cons_of_mem))) (by first | k_mem | (repeat (first | exact List.mem_cons_self | apply List.mem_cons_of_mem))) (by first | k_mem | (repeat (first | exact List.mem_cons_self | apply List.mem_cons_of_mem))) (by first | k_mem | (repeat (first | exact List.mem_cons_self | apply List.mem_cons_of_mem))) (by first | k_mem | (repeat (first | exact List.mem_cons_self | apply List.mem_cons_of_mem))) (by cb_room) (by cb_room) (by ktr_room) (by ktr_units) ?_); intro h9 tk9 F9 N9; (try dsimp only); (try k_fold)))) | ((k_here; k_dflt ((with_reducible show wpAny _ _ (PySem.call (Value.ref 239) _ _) _ _ _); (refine' na1_c (by k_asm) (by k_asm) (by k_asm) (by k_asm) (by k_asm) (by first | exact rfl | assumption) (by first | k_mem | (repeat (first | exact List.mem_cons_self | apply List.mem_cons_of_mem))) (by first | k_mem | (repeat (first | exact List.mem_cons_self | apply List.mem_cons_of_mem))) (by first | k_mem | (repeat (first | exact List.mem_cons_self | apply List.mem_cons_of_mem))) (by cb_room) (by cb_room) (by cb_room) (by ktr_room) (by ktr_units) ?_); intro h9 tk9 F9 N9; (try dsimp only); (try k_fold)))) | ((k_here; k_dflt ((with_reducible show wpAny _ _ (PySem.call (Value.ref 234) _ _) _ _ _); (refine' nio1_c (by k_asm) (by k_asm) (by k_asm) (by k_asm) (by k_asm) (by first | exact rfl | assumption) (by first | k_mem | (repeat (first | exact List.mem_cons_self | apply List.mem_cons_of_mem))) (by first | k_mem | (repeat (first | exact List.mem_cons_self | apply List.mem_cons_of_mem))) (by first | k_mem | (repeat (first | exact List.mem_cons_self | apply List.mem_cons_of_mem))) (by cb_room) (by ktr_room) (by ktr_units) ?_); intro h9 tk9 F9 N9; (try dsimp only); (try k_fold)))) | ((with_reducible show PyProof.Rows.LCg.CompEnd _ _ _ _ _ _ _ _ _ _ _ _ _ _); k_dflt (first | refine cend0 (by assumption) (by assumption) (by ktn_open) (by lcg_src) ?_ | refine cend1 (by assumption) (by assumption) (by ktn_open) (by dsimp only; first | exact off9 | lia) (by lcg_src) ?_ | refine cend2 (by assumption) (by assumption) (by ktn_open) (by dsimp only; first | exact off9 | lia) (by dsimp only; first | exact off9 | lia) (by lcg_src) ?_)) | ((k_here; k_dflt ((with_reducible show wpAny _ _ (PySem.call (Value.ref 227) _ _) _ _ _); (refine' record_c (by k_asm) (by k_asm) (by k_asm) (by k_asm) (by k_asm) (by first | exact rfl | assumption) (by first | assumption | exact rfl) (by cb_room) (by cb_room) (by cb_room) (by first | exact tg_of (by assumption) (by assumption)) (by ktr_room) (by ktr_units) ?_); intro z9 dz9 sv9 y9 bg9 ln9 a9 b9 c9 e9 f9 g9 o9 p9 q9 r9 h9 tk9 hs9 hb9 hl9 hlt9 hdz9 F9 N9; (try k_lt hlt9); (first | have hs8 := Eq.trans hs9 tag_f | have hs8 := Eq.trans hs9 tag_t); subst hs8; (have hb8 := beg_of hb9 (by assumption) (by assumption)); subst hb8; (have hl8 := beg_of hl9 (by assumption) (by assumption)); subst hl8; (try dsimp only); (try k_fold)))) | ((k_here; k_dflt ((with_reducible show wpAny _ _ (PySem.call (Value.ref 139) _ _) _ _ _); (refine' u16_c (by k_asm) (by k_asm) (by k_asm) (by k_asm) (by k_asm) (by first | exact rfl | assumption) (by ktr_rel) (by cb_room) (by first | assumption | exact rfl) (by cb_room) (by first | cb_room | (simp only [List.length_append, List.length_take, List.length_drop, List.length_cons, List.length_nil]; lia)) (by cb_room) (by ktr_room) (by ktr_units) ?_); intro v9 t9 t8 h9 tk9 e9 F9 N9; (have e8 := Eq.trans e9 (by assumption)); subst e8; (try dsimp only); (try k_fold)))) | ((k_here; k_dflt ((with_reducible show wpAny _ _ (PySem.call (Value.ref 89) _ _) _ _ _); (refine' number_c (by k_asm) (by k_asm) (by k_asm) (by k_asm) (by k_asm) (by first | exact rfl | assumption) (by first | assumption | exact rfl) (by cb_room) (by cb_room) (by first | cb_room | (simp only [List.length_append, List.length_take, List.length_drop, List.length_cons, List.length_nil]; lia)) (by cb_room) (by cb_room) (by ktr_room) (by ktr_units) ?_); intro v9 t9 h9 tk9 e9 F9 N9; (try dsimp only); (try k_fold)))) | ((with_reducible show wpAny _ _ (compareOp CmpOp.NotIn (Value.int _ _) (Value.ref _)) _ _ _); (k_here; k_dflt ((with_reducible show wpAny _ _ (compareOp CmpOp.NotIn (Value.int _ _) (Value.ref 185)) _ _ _); (first | refine notin_ver (by assumption) (by assumption) (ver_yes (by assumption) (by assumption)) ?_ | refine notin_ver (by assumption) (by assumption) (ver_no (by assumption) (by assumption)) ?_); (try dsimp only [Bool.not_true, Bool.not_false])))) | ((with_reducible show wpAny _ _ (leaving _ _) _ _ _); k_dflt (refine rf_first (by assumption) (by assumption) (news_tail (by assumption)) rfl rfl (News.get (by assumption) (.head _)) (by assumption) (by assumption) (g_none (by assumption)) (g_ne (by assumption)) (by assumption) ?_; intro h8 R8 sm8)) | ((k_here; k_dflt ((with_reducible show wpAny _ _ (PySem.call (Value.ref 73) [Value.str _ _, Value.int _ _] _) _ _ _); (refine' ff_c (by k_asm) (by k_asm) (by k_asm) (by k_asm) (by k_asm) (by first | exact rfl | assumption) (by ktr_room) (by ktr_room) ?_); intro e9 h9 tk9 o9 t9 F9 N9 ne9 hc9 hd9; (refine ⟨_, _, _, rfl, in73F (by k_asm) F9, (N9 _ (.head _)).1, hc9, hd9, ?_⟩)))) | ((with_reducible show wpAny _ _ (exec (Stmt.Raise (some _) none _) _) _ _ _); (k_here; k_dflt (refine Raise_F rfl ?_))) | (with_reducible ((k_here; (with_reducible show wpAny _ _ (subscriptTail _ (Expr.Slice _ _ none _) (Value.bytes _ _) (Value.ref _)) _ _ _); (with_reducible rename Fr _ _ _ _ => F'); (with_reducible rename News _ _ _ _ => N'); (first | (refine sliceIJ (s := ⟨_, _, _, _, _⟩) F' N' (by assumption) (by lia) (by lia) (by first | lia | (simp only [List.length_append, List.length_take, List.length_drop, List.length_cons, List.length_nil]; lia)) (by lia) ?_ (by with_unfolding_all rfl) (by intro _; with_unfolding_all rfl)) | (refine sliceI (s := ⟨_, _, _, _, _⟩) F' N' (by assumption) (by lia) (by first | lia | (simp only [List.length_append, List.length_take, List.length_drop, List.length_cons, List.length_nil]; lia)) (by lia) ?_ (by with_unfolding_all rfl) (by intro _; with_unfolding_all rfl)) | (refine sliceJ (s := ⟨_, _, _, _, _⟩) F' N' (by assumption) (by lia) (by first | lia | (simp only [List.length_append, List.length_take, List.length_drop, List.length_cons, List.length_nil]; lia)) (by lia) ?_ (by with_unfolding_all rfl) (by intro _; with_unfolding_all rfl))); intro bS' hS' tS' kS' fS' nS' eS'; clear F' N'))) | (k_unfold; (try dsimp only)) | (k_unmd; k_unfold; (try dsimp only)) | (k_end; wrow_close) | walk1 | (dsimp only; walk1) | (leave1; walk_say "STEP leave1"; try dsimp only) | fail "no step"))
  all_goals first
    | exact hrai _ _ _ _ (by assumption) (RaisedN.sub (by assumption) (fun p hp => .tail _ hp)) (by assumption)
    | (refine' hret _ _ _ _ _ _ _ _ _ _ _ _ _ _ _ _  _ _ _ _ ?hv ?hF ?hN ?h1 ?h2 ?h3; (case hF => assumption); (case hN => exact cb_drop (by assumption) drops1); (case hv => assumption); (case h1 => exact ktn_ltOf (by ktn_lt)); (case h2 => exact ne_off1 (by ktn_lt)); (case h3 => exact ktn_ltOf (by ktn_lt)))
    | (refine' hret _ _ _ _ _ _ _ _ _ _ _ _ _ _ _ _  _ _ _ _ _ _ _ _ _ _ _ _ _ _  _ _ _ _ ?hv ?hF ?hN ?h1 ?h2 ?h3; (case hF => assumption); (case hN => exact cb_drop (by assumption) drops2); (case hv => assumption); (case h1 => exact ktn_ltOf (by ktn_lt)); (case h2 => exact ne_off1 (by ktn_lt)); (case h3 => exact ktn_ltOf (by ktn_lt)))
theorem rr1_c {d : Array UInt8} {ks : List Int} {b w1 bg1 ln1 : Int} {t1 t2 : Tok} {news : List (Addr × Obj)}
  (B : Below A₀ base outer h₀) (F : Fr h₀ L s.heap m) (X : (Mine.hd.heap_39 w.params).In h₀) (N : News h₀ L s.heap (news)) (T : Top Mine.hd.view_39 (looseW Mine.hd.view_39 [Str.ofString "ShapeError", Str.ofString "VERSIONS"]) mean mg mb h₀) (hk : cs.kind = .function)
  (hks : KBw.bInts d = ks) (hs : ks.length ≤ 1048576) (h0 : 0 ≤ b) (h1 : b + 12 + 16 * 1 ≤ (ks.length : Int)) (hv : verOk (beL ((ks.drop b.toNat).take 4))) (hcnt : beL ((ks.drop (b + 4).toNat).take 2) = 1) (bq1 : beL ((ks.drop (w1 + 8).toNat).take 4) = bg1) (lq1 : beL ((ks.drop (w1 + 12).toNat).take 4) = ln1) (lz1 : 0 ≤ ln1) (be1 : bg1 + ln1 ≤ (ks.length : Int)) (tg1 : (ks.drop w1.toNat).take 4 = tagCodes false) (hw1 : b + 12 + 0 = w1) (hpos : ln1 = 0 ∨ (0 < ln1 ∧ bg1 + ln1 ≤ b) ∨ (0 < ln1 ∧ b + (12 + 16 * 1) ≤ bg1))
  (hd : dp + 40 ≤ 450) (hu : un + 320 ≤ 1800)
  (hret : ∀ tp rl z1 dz1 wh1 y1 a1 b1 c1 e1 f1 g1 o1 p1 q1 r1 v tv h' tk', v = beL ((ks.drop b.toNat).take 4) → Fr h₀ L h' m → News h₀ L h' ((tp, ({ cls := .type "tuple", data := .seq #[.int v tv, .ref rl] } : Obj)) :: (rl, PyProof.Rows.LCg.lst [.ref z1]) :: (z1, instObj 209 dz1) :: (dz1, dictOf [⟨PyData.keyHash w.params (Str.ofString "tag"), .str (Str.ofString "tag") a1, .str (Str.ofString "cmap") b1⟩, ⟨PyData.keyHash w.params (Str.ofString "total"), .str (Str.ofString "total") c1, .int y1 e1⟩, ⟨PyData.keyHash w.params (Str.ofString "begin"), .str (Str.ofString "begin") f1, .int bg1 g1⟩, ⟨PyData.keyHash w.params (Str.ofString "length"), .str (Str.ofString "length") o1, .int ln1 p1⟩, ⟨PyData.keyHash w.params (Str.ofString "where"), .str (Str.ofString "where") q1, .int wh1 r1⟩] 5) :: news) → (∀ p ∈ news, @LT.lt Nat _ p.1 tp) → (∀ p ∈ news, p.1 ≠ rl) → (∀ p ∈ news, @LT.lt Nat _ p.1 dz1) → Q (.ref tp) { s with heap := h', toks := tk' }) :
  wpAny (model PySem.Challenge.rw_pb0178_01.row.prog w) (ktrTop dp un gd cn cs L a ccd cl outer) (call (.ref 244) [.bytes d t1, .int b t2]) Q E s :=
  rr_c B F X N T hk hks hs h0 hd hu (.on (by lia) (.good 1 (by decide) (by decide) h1 hv hcnt (.one w1 bg1 ln1 rfl bq1 lq1 lz1 be1 tg1 hw1 hpos hret)))
theorem rr2_c {d : Array UInt8} {ks : List Int} {b w1 bg1 ln1 w2 bg2 ln2 : Int} {t1 t2 : Tok} {news : List (Addr × Obj)}
  (B : Below A₀ base outer h₀) (F : Fr h₀ L s.heap m) (X : (Mine.hd.heap_39 w.params).In h₀) (N : News h₀ L s.heap (news)) (T : Top Mine.hd.view_39 (looseW Mine.hd.view_39 [Str.ofString "ShapeError", Str.ofString "VERSIONS"]) mean mg mb h₀) (hk : cs.kind = .function)
  (hks : KBw.bInts d = ks) (hs : ks.length ≤ 1048576) (h0 : 0 ≤ b) (h1 : b + 12 + 16 * 2 ≤ (ks.length : Int)) (hv : verOk (beL ((ks.drop b.toNat).take 4))) (hcnt : beL ((ks.drop (b + 4).toNat).take 2) = 2) (bq1 : beL ((ks.drop (w1 + 8).toNat).take 4) = bg1) (lq1 : beL ((ks.drop (w1 + 12).toNat).take 4) = ln1) (lz1 : 0 ≤ ln1) (be1 : bg1 + ln1 ≤ (ks.length : Int)) (tg1 : (ks.drop w1.toNat).take 4 = tagCodes false) (hw1 : b + 12 + 0 = w1) (bq2 : beL ((ks.drop (w2 + 8).toNat).take 4) = bg2) (lq2 : beL ((ks.drop (w2 + 12).toNat).take 4) = ln2) (lz2 : 0 ≤ ln2) (be2 : bg2 + ln2 ≤ (ks.length : Int)) (tg2 : (ks.drop w2.toNat).take 4 = tagCodes true) (hw2 : b + 12 + 16 = w2) (h12 : bg1 + ln1 = bg2) (hpos : bg2 + ln2 ≤ b ∨ b + (12 + 16 * 2) ≤ bg1)
  (hd : dp + 40 ≤ 450) (hu : un + 320 ≤ 1800)
  (hret : ∀ tp rl z1 dz1 wh1 y1 a1 b1 c1 e1 f1 g1 o1 p1 q1 r1 z2 dz2 wh2 y2 a2 b2 c2 e2 f2 g2 o2 p2 q2 r2 v tv h' tk', v = beL ((ks.drop b.toNat).take 4) → Fr h₀ L h' m → News h₀ L h' ((tp, ({ cls := .type "tuple", data := .seq #[.int v tv, .ref rl] } : Obj)) :: (rl, PyProof.Rows.LCg.lst [.ref z1, .ref z2]) :: (z2, instObj 209 dz2) :: (dz2, dictOf [⟨PyData.keyHash w.params (Str.ofString "tag"), .str (Str.ofString "tag") a2, .str (Str.ofString "post") b2⟩, ⟨PyData.keyHash w.params (Str.ofString "total"), .str (Str.ofString "total") c2, .int y2 e2⟩, ⟨PyData.keyHash w.params (Str.ofString "begin"), .str (Str.ofString "begin") f2, .int bg2 g2⟩, ⟨PyData.keyHash w.params (Str.ofString "length"), .str (Str.ofString "length") o2, .int ln2 p2⟩, ⟨PyData.keyHash w.params (Str.ofString "where"), .str (Str.ofString "where") q2, .int wh2 r2⟩] 5) :: (z1, instObj 209 dz1) :: (dz1, dictOf [⟨PyData.keyHash w.params (Str.ofString "tag"), .str (Str.ofString "tag") a1, .str (Str.ofString "cmap") b1⟩, ⟨PyData.keyHash w.params (Str.ofString "total"), .str (Str.ofString "total") c1, .int y1 e1⟩, ⟨PyData.keyHash w.params (Str.ofString "begin"), .str (Str.ofString "begin") f1, .int bg1 g1⟩, ⟨PyData.keyHash w.params (Str.ofString "length"), .str (Str.ofString "length") o1, .int ln1 p1⟩, ⟨PyData.keyHash w.params (Str.ofString "where"), .str (Str.ofString "where") q1, .int wh1 r1⟩] 5) :: news) → (∀ p ∈ news, @LT.lt Nat _ p.1 tp) → (∀ p ∈ news, p.1 ≠ rl) → (∀ p ∈ news, @LT.lt Nat _ p.1 dz1) → Q (.ref tp) { s with heap := h', toks := tk' }) :
  wpAny (model PySem.Challenge.rw_pb0178_01.row.prog w) (ktrTop dp un gd cn cs L a ccd cl outer) (call (.ref 244) [.bytes d t1, .int b t2]) Q E s :=
  rr_c B F X N T hk hks hs h0 hd hu (.on (by lia) (.good 2 (by decide) (by decide) h1 hv hcnt (.two w1 bg1 ln1 w2 bg2 ln2 rfl bq1 lq1 lz1 be1 tg1 hw1 bq2 lq2 lz2 be2 tg2 hw2 h12 hpos hret)))
theorem rrF1_c {d : Array UInt8} {ks : List Int} {b : Int} {t1 t2 : Tok} {news : List (Addr × Obj)}
  (B : Below A₀ base outer h₀) (F : Fr h₀ L s.heap m) (X : (Mine.hd.heap_39 w.params).In h₀) (N : News h₀ L s.heap (news)) (T : Top Mine.hd.view_39 (looseW Mine.hd.view_39 [Str.ofString "ShapeError", Str.ofString "VERSIONS"]) mean mg mb h₀) (hk : cs.kind = .function)
  (hks : KBw.bInts d = ks) (hs : ks.length ≤ 1048576) (h0 : 0 ≤ b) (h1 : (ks.length : Int) < b + 12)
  (hd : dp + 40 ≤ 450) (hu : un + 320 ≤ 1800)
  (hrai : ∀ e h' tk' G, Fr h₀ L G m → RaisedN base (envX cn cs L a ccd cl :: outer) e (.ref 73) (news) h' → G.UpToSlots h' → E (.ref e) { s with heap := h', toks := tk' }) :
  wpAny (model PySem.Challenge.rw_pb0178_01.row.prog w) (ktrTop dp un gd cn cs L a ccd cl outer) (call (.ref 244) [.bytes d t1, .int b t2]) Q E s :=
  rr_c B F X N T hk hks hs h0 hd hu (.short h1 hrai)
theorem rrF2_c {d : Array UInt8} {ks : List Int} {b : Int} {t1 t2 : Tok} {news : List (Addr × Obj)}
  (B : Below A₀ base outer h₀) (F : Fr h₀ L s.heap m) (X : (Mine.hd.heap_39 w.params).In h₀) (N : News h₀ L s.heap (news)) (T : Top Mine.hd.view_39 (looseW Mine.hd.view_39 [Str.ofString "ShapeError", Str.ofString "VERSIONS"]) mean mg mb h₀) (hk : cs.kind = .function)
  (hks : KBw.bInts d = ks) (hs : ks.length ≤ 1048576) (h0 : 0 ≤ b) (h1 : b + 12 ≤ (ks.length : Int)) (hv : ¬verOk (beL ((ks.drop b.toNat).take 4)))
  (hd : dp + 40 ≤ 450) (hu : un + 320 ≤ 1800)
  (hrai : ∀ e h' tk' G, Fr h₀ L G m → RaisedN base (envX cn cs L a ccd cl :: outer) e (.ref 73) (news) h' → G.UpToSlots h' → E (.ref e) { s with heap := h', toks := tk' }) :
  wpAny (model PySem.Challenge.rw_pb0178_01.row.prog w) (ktrTop dp un gd cn cs L a ccd cl outer) (call (.ref 244) [.bytes d t1, .int b t2]) Q E s :=
  rr_c B F X N T hk hks hs h0 hd hu (.on h1 (.vers hv hrai))
end
end
end
section
structure FRes where
  ver : Int
  vals : List (List Int)
noncomputable def cut (ks : List Int) (b l : Int) : List Int := (ks.drop b.toNat).take l.toNat
inductive FontAt (ks : List Int) (b : Int) : FRes → Prop
  | one {bg1 ln1 w1 : Int} (h0 : 0 ≤ b) (h1 : b + 12 + 16 * 1 ≤ (ks.length : Int)) (hv : verOk (beL ((ks.drop b.toNat).take 4))) (hcnt : beL ((ks.drop (b + 4).toNat).take 2) = 1)
      (bq1 : beL ((ks.drop (w1 + 8).toNat).take 4) = bg1) (lq1 : beL ((ks.drop (w1 + 12).toNat).take 4) = ln1) (lz1 : 0 ≤ ln1) (be1 : bg1 + ln1 ≤ (ks.length : Int))
      (tg1 : (ks.drop w1.toNat).take 4 = tagCodes false) (hw1 : b + 12 + 0 = w1) (bz1 : 0 ≤ bg1)
      (hpos : ln1 = 0 ∨ (0 < ln1 ∧ bg1 + ln1 ≤ b) ∨ (0 < ln1 ∧ b + (12 + 16 * 1) ≤ bg1)) : FontAt ks b ⟨beL ((ks.drop b.toNat).take 4), [cut ks bg1 ln1]⟩
  | two {bg1 ln1 w1 bg2 ln2 w2 : Int} (h0 : 0 ≤ b) (h1 : b + 12 + 16 * 2 ≤ (ks.length : Int)) (hv : verOk (beL ((ks.drop b.toNat).take 4))) (hcnt : beL ((ks.drop (b + 4).toNat).take 2) = 2)
      (bq1 : beL ((ks.drop (w1 + 8).toNat).take 4) = bg1) (lq1 : beL ((ks.drop (w1 + 12).toNat).take 4) = ln1) (lz1 : 0 ≤ ln1) (be1 : bg1 + ln1 ≤ (ks.length : Int))
      (tg1 : (ks.drop w1.toNat).take 4 = tagCodes false) (hw1 : b + 12 + 0 = w1) (bz1 : 0 ≤ bg1)
      (bq2 : beL ((ks.drop (w2 + 8).toNat).take 4) = bg2) (lq2 : beL ((ks.drop (w2 + 12).toNat).take 4) = ln2) (lz2 : 0 ≤ ln2) (be2 : bg2 + ln2 ≤ (ks.length : Int))
      (tg2 : (ks.drop w2.toNat).take 4 = tagCodes true) (hw2 : b + 12 + 16 = w2) (bz2 : 0 ≤ bg2)
      (h12 : bg1 + ln1 = bg2) (hpos : bg2 + ln2 ≤ b ∨ b + (12 + 16 * 2) ≤ bg1) : FontAt ks b ⟨beL ((ks.drop b.toNat).take 4), [cut ks bg1 ln1, cut ks bg2 ln2]⟩
noncomputable def ent (w : World) (tag : PySem.Str) (k : Tok) (v : Array UInt8) (u : Tok) : DictEntry := ⟨PyData.keyHash w.params tag, .str tag k, .bytes v u⟩
inductive ItemAt (w : World) (R : List (Addr × Obj)) : Value → FRes → Prop
  | one {tp dd : Addr} {ver : Int} {tv k u : Tok} {v : Array UInt8} {x : List Int} (ht : (tp, ({ cls := .type "tuple", data := .seq #[.int ver tv, .ref dd] } : Obj)) ∈ R)
      (hd : (dd, dictOf [⟨PyData.keyHash w.params (Str.ofString "cmap"), .str (Str.ofString "cmap") k, .bytes v u⟩] 1) ∈ R) (hx : KBw.bInts v = x) : ItemAt w R (.ref tp) ⟨ver, [x]⟩
  | two {tp dd : Addr} {ver : Int} {tv k1 u1 k2 u2 : Tok} {v1 v2 : Array UInt8} {x1 x2 : List Int} (ht : (tp, ({ cls := .type "tuple", data := .seq #[.int ver tv, .ref dd] } : Obj)) ∈ R)
      (hd : (dd, dictOf [⟨PyData.keyHash w.params (Str.ofString "cmap"), .str (Str.ofString "cmap") k1, .bytes v1 u1⟩, ⟨PyData.keyHash w.params (Str.ofString "post"), .str (Str.ofString "post") k2, .bytes v2 u2⟩] 2) ∈ R)
      (hx1 : KBw.bInts v1 = x1) (hx2 : KBw.bInts v2 = x2) : ItemAt w R (.ref tp) ⟨ver, [x1, x2]⟩
theorem ItemAt.mono {w : World} {R R' : List (Addr × Obj)} {v : Value} {f : FRes} (h : ItemAt w R v f) (k : ∀ p ∈ R, p ∈ R') : ItemAt w R' v f := by
  cases h with
  | one ht hd hx => exact .one (k _ ht) (k _ hd) hx
  | two ht hd hx1 hx2 => exact .two (k _ ht) (k _ hd) hx1 hx2
inductive Items (w : World) (R : List (Addr × Obj)) : List Value → List FRes → Prop
  | nil : Items w R [] []
  | snoc {vs : List Value} {fs : List FRes} {v : Value} {f : FRes} (h : Items w R vs fs) (i : ItemAt w R v f) : Items w R (vs ++ [v]) (fs ++ [f])
theorem Items.mono {w : World} {R R' : List (Addr × Obj)} {vs : List Value} {fs : List FRes} (h : Items w R vs fs) (k : ∀ p ∈ R, p ∈ R') : Items w R' vs fs := by
  induction h with
  | nil => exact .nil
  | snoc _ i ih => exact .snoc ih (i.mono k)
end
section
theorem part12 : True := by
  w_top off
  trivial
theorem notin_two {prog : Program} {w : World} {A : Around} {E : Value → Shared → Prop} {Q : Value → Shared → Prop} {s : Shared} {h₀ : Heap} {L tp : Addr} {news : List (Addr × Obj)} {v x y : Int} {t tx ty : Tok} {b : Bool} (N : News h₀ L s.heap news)
    (hm : (tp, ({ cls := .type "tuple", data := .seq #[.int x tx, .int y ty] } : Obj)) ∈ news) (h : (v = x ∨ v = y) ↔ b = true) (hq : Q (.bool !b) s) : wpAny (model prog w) A (compareOp .NotIn (.int v t) (.ref tp)) Q E s := by
  refine notin_tuple_ints (items := #[.int x tx, .int y ty]) (ns := [x, y]) ⟨_, N.get hm, rfl, _, rfl⟩ (.cons _ _ (.cons _ _ .nil)) ?_
  have e : ([x, y] : List Int).any (· == v) = b := by
    cases b with
    | true => rcases h.mpr rfl with rfl | rfl <;> simp
    | false =>
      simp only [List.any_cons, List.any_nil, Bool.or_false, Bool.or_eq_false_iff, beq_eq_false_iff_ne]
      exact ⟨fun q => absurd (h.mp (.inl q.symm)) (by simp), fun q => absurd (h.mp (.inr q.symm)) (by simp)⟩
  rw [e]
  exact hq
theorem iff_t {p : Prop} (h : p) : p ↔ true = true := ⟨fun _ => rfl, fun _ => h⟩
theorem iff_f {p : Prop} (h : ¬p) : p ↔ false = true := ⟨fun k => absurd k h, fun k => by cases k⟩
inductive FontBad (ks : List Int) (b : Int) : Prop
  | ends (h0 : 0 ≤ b) (h1 : (ks.length : Int) < b + 12) : FontBad ks b
  | vers (h0 : 0 ≤ b) (h1 : b + 12 ≤ (ks.length : Int)) (hv : ¬verOk (beL ((ks.drop b.toNat).take 4))) : FontBad ks b
theorem sub_news {a b c d : Addr × Obj} {R news : List (Addr × Obj)} : ∀ p ∈ news, p ∈ a :: b :: c :: d :: (R ++ news) := fun p hp => .tail _ (.tail _ (.tail _ (.tail _ (List.mem_append.mpr (.inr hp)))))
noncomputable def RcJ (w : World) (fs : List FRes) (d : Array UInt8) (t1 ka kb : Tok) (fl x dx : Addr) (news : List (Addr × Obj)) (m₀ : Str → Option Value) (i : Nat) (m' : Str → Option Value) (news' : List (Addr × Obj)) : Prop :=
  (∃ a b c : Option Value, m' = fun y => if y = Str.ofString "records" then a else if y = Str.ofString "version" then b else if y = Str.ofString "spot" then c else m₀ y) ∧
  ∃ (ys : List Value) (R : List (Addr × Obj)) (t8 : Tok), news' = (x, instObj 180 dx) :: (dx, dictOf [⟨PyData.keyHash w.params (Str.ofString "data"), .str (Str.ofString "data") ka, .bytes d t1⟩, ⟨PyData.keyHash w.params (Str.ofString "at"), .str (Str.ofString "at") kb, .int (12 + 4 * (i : Int)) t8⟩] 2) :: (fl, PyProof.Rows.LCg.lst ys) :: (R ++ news) ∧ Items w (R ++ news) ys (fs.take i) ∧ OwnOff (R ++ news) [fl, x, dx]
theorem rcj_m {m₀ : Str → Option Value} {a b c a' b' c' : Option Value} {m' : Str → Option Value}
   (h : m' = fun y => if y = Str.ofString "records" then a' else if y = Str.ofString "version" then b' else if y = Str.ofString "spot" then c' else if y = Str.ofString "records" then a else if y = Str.ofString "version" then b else if y = Str.ofString "spot" then c else m₀ y) :
   m' = fun y => if y = Str.ofString "records" then a' else if y = Str.ofString "version" then b' else if y = Str.ofString "spot" then c' else m₀ y := by
  subst h
  funext y
  split
  · rfl
  · split
    · rfl
    · split
      · rfl
      · rfl
theorem news_rot3 {h₀ h : Heap} {L : Addr} {a b c : Addr × Obj} {r : List (Addr × Obj)} (N : News h₀ L h (a :: b :: c :: r)) : News h₀ L h (b :: c :: a :: r) := fun p hp => N p (by
  refine List.subset_def.mp ?_ hp
  repeat (first | refine List.cons_subset.mpr ⟨by repeat (first | exact .head _ | refine .tail _ ?_), ?_⟩ | refine List.append_subset.mpr ⟨?_, ?_⟩)
  all_goals first | exact List.nil_subset _ | exact fun _ h => by repeat (first | exact h | exact List.mem_append_left _ h | refine .tail _ ?_ | refine List.mem_append_right _ ?_))
theorem news_in3 {h₀ h : Heap} {L : Addr} {a b c e : Addr × Obj} {r : List (Addr × Obj)} (N : News h₀ L h (a :: b :: c :: e :: r)) : News h₀ L h (b :: c :: e :: a :: r) := fun p hp => N p (by
  refine List.subset_def.mp ?_ hp
  repeat (first | refine List.cons_subset.mpr ⟨by repeat (first | exact .head _ | refine .tail _ ?_), ?_⟩ | refine List.append_subset.mpr ⟨?_, ?_⟩)
  all_goals first | exact List.nil_subset _ | exact fun _ h => by repeat (first | exact h | exact List.mem_append_left _ h | refine .tail _ ?_ | refine List.mem_append_right _ ?_))
theorem own_fl {R : List (Addr × Obj)} {fl x dx I : Addr} {o oI : Obj} (h : OwnOff R [fl, x, dx]) (l3 : @LT.lt Nat _ x fl) (l4 : @LT.lt Nat _ dx fl) (h1 : x ≠ I) (h2 : dx ≠ I) : OwnOff ((fl, o) :: (I, oI) :: R) [x, dx] :=
  own_cons ⟨Nat.ne_of_gt l3, Nat.ne_of_gt l4, trivial⟩ (own_cons ⟨Ne.symm h1, Ne.symm h2, trivial⟩ (own_sub h fun b hb => .tail _ hb))
theorem append_N {prog : Program} {w : World} {A : Around} {E : Value → Shared → Prop} {s : Shared} {h₀ : Heap} {L : Addr} {m : Str → Option Value} {Q : Value → Shared → Prop} {l : Addr} {ys : List Value} {x : Value} {rest : List (Addr × Obj)}
    (F : Fr h₀ L s.heap m) (N : News h₀ L s.heap ((l, PyProof.Rows.LCg.lst ys) :: rest)) (off : ∀ p ∈ rest, p.1 ≠ l) (hsz : ys.length ≤ sizeLine)
    (h : ∀ h', Fr h₀ L h' m → News h₀ L h' ((l, PyProof.Rows.LCg.lst (ys ++ [x])) :: rest) → Q .none { s with heap := h' }) :
    wpAny (model prog w) A (call (.builtin "list.append") [.ref l, x]) Q E s := by
  have z := N _ (.head _)
  refine append_at z.1 (fun h' hs hD => h h' (F.change hs z.2.1 z.2.2) fun p hp => ?_) (by rw [List.size_toArray]; exact hsz)
  rcases List.mem_cons.mp hp with rfl | hp
  · exact ⟨hD.trans (congrArg some (PyProof.Rows.LCg.lst_snoc ys x)), z.2⟩
  · exact ⟨hs.extBut _ _ (off p hp) (N p (.tail _ hp)).1, (N p (.tail _ hp)).2⟩
section
variable {h₀ h : Heap} {L : Addr} {a b c d e f g k x y l i : Addr × Obj} {r : List (Addr × Obj)}
theorem pick1 (N : News h₀ L h (a :: b :: c :: d :: e :: f :: x :: y :: l :: i :: r)) : News h₀ L h (l :: a :: b :: x :: y :: i :: r) := fun p hp => N p (by
  refine List.subset_def.mp ?_ hp
  repeat (first | refine List.cons_subset.mpr ⟨by repeat (first | exact .head _ | refine .tail _ ?_), ?_⟩ | refine List.append_subset.mpr ⟨?_, ?_⟩)
  all_goals first | exact List.nil_subset _ | exact fun _ h => by repeat (first | exact h | exact List.mem_append_left _ h | refine .tail _ ?_ | refine List.mem_append_right _ ?_))
theorem pick2 (N : News h₀ L h (a :: b :: c :: d :: e :: f :: g :: k :: x :: y :: l :: i :: r)) : News h₀ L h (l :: a :: b :: x :: y :: i :: r) := fun p hp => N p (by
  refine List.subset_def.mp ?_ hp
  repeat (first | refine List.cons_subset.mpr ⟨by repeat (first | exact .head _ | refine .tail _ ?_), ?_⟩ | refine List.append_subset.mpr ⟨?_, ?_⟩)
  all_goals first | exact List.nil_subset _ | exact fun _ h => by repeat (first | exact h | exact List.mem_append_left _ h | refine .tail _ ?_ | refine List.mem_append_right _ ?_))
theorem pick_fl (N : News h₀ L h (x :: y :: l :: r)) : News h₀ L h (l :: r) := fun p hp => N p (.tail _ (.tail _ hp))
theorem pick_back (N : News h₀ L h (l :: a :: b :: x :: y :: i :: r)) : News h₀ L h (i :: x :: y :: l :: a :: b :: r) := fun p hp => N p (by
  refine List.subset_def.mp ?_ hp
  repeat (first | refine List.cons_subset.mpr ⟨by repeat (first | exact .head _ | refine .tail _ ?_), ?_⟩ | refine List.append_subset.mpr ⟨?_, ?_⟩)
  all_goals first | exact List.nil_subset _ | exact fun _ h => by repeat (first | exact h | exact List.mem_append_left _ h | refine .tail _ ?_ | refine List.mem_append_right _ ?_))
theorem off5 {l u v : Addr} (h1 : a.1 ≠ l) (h2 : b.1 ≠ l) (h3 : x.1 ≠ l) (h4 : y.1 ≠ l) (h5 : i.1 ≠ l) (h6 : OwnOff r [l, u, v]) : ∀ p ∈ a :: b :: x :: y :: i :: r, p.1 ≠ l := fun p hp => by
  rcases List.mem_cons.mp hp with rfl | hp
  · exact h1
  rcases List.mem_cons.mp hp with rfl | hp
  · exact h2
  rcases List.mem_cons.mp hp with rfl | hp
  · exact h3
  rcases List.mem_cons.mp hp with rfl | hp
  · exact h4
  rcases List.mem_cons.mp hp with rfl | hp
  · exact h5
  exact h6 p hp l (.head _)
theorem off_back {I : Addr} (h3 : x.1 ≠ I) (h4 : y.1 ≠ I) (h5 : l.1 ≠ I) (h1 : a.1 ≠ I) (h2 : b.1 ≠ I) (h6 : ∀ p ∈ r, p.1 ≠ I) : ∀ p ∈ x :: y :: l :: a :: b :: r, p.1 ≠ I := fun p hp => by
  rcases List.mem_cons.mp hp with rfl | hp
  · exact h3
  rcases List.mem_cons.mp hp with rfl | hp
  · exact h4
  rcases List.mem_cons.mp hp with rfl | hp
  · exact h5
  rcases List.mem_cons.mp hp with rfl | hp
  · exact h1
  rcases List.mem_cons.mp hp with rfl | hp
  · exact h2
  exact h6 p hp
end
theorem Items.len {w : World} {R : List (Addr × Obj)} {vs : List Value} {fs : List FRes} (h : Items w R vs fs) : vs.length = fs.length := by
  induction h with
  | nil => rfl
  | snoc _ _ ih => simp [ih]
theorem rcj0 {w : World} {fs : List FRes} {d : Array UInt8} {t1 ka kb t8 : Tok} {fl x dx : Addr} {news : List (Addr × Obj)} {m₀ : Str → Option Value} (l1 : ∀ p ∈ news, p.1 < dx) (l2 : @LT.lt Nat _ dx x) (l : @LT.lt Nat _ x fl ∧ @LT.lt Nat _ dx fl ∧ AllLt fl news) :
    RcJ w fs d t1 ka kb fl x dx news m₀ 0 m₀ ((x, instObj 180 dx) :: (dx, dictOf [⟨PyData.keyHash w.params (Str.ofString "data"), .str (Str.ofString "data") ka, .bytes d t1⟩, ⟨PyData.keyHash w.params (Str.ofString "at"), .str (Str.ofString "at") kb, .int (4 + 4 + 4) t8⟩] 2) :: (fl, W.listOf #[] 0) :: news) := by
  refine ⟨⟨m₀ (Str.ofString "records"), m₀ (Str.ofString "version"), m₀ (Str.ofString "spot"), ?_⟩, [], [], t8, rfl, .nil, ?_⟩
  · funext y
    split
    · next h => rw [h]
    · split
      · next h => rw [h]
      · split
        · next h => rw [h]
        · rfl
  · intro p hp b hb e
    have h1 : p.1 < dx := l1 p hp
    rw [e] at h1
    simp only [List.mem_cons, List.not_mem_nil, or_false] at hb
    have l3 := l.1
    have l4 := l.2.1
    rcases hb with rfl | rfl | rfl
    · exact absurd h1 (Nat.not_lt.mpr (Nat.le_of_lt l4))
    · exact absurd h1 (Nat.not_lt.mpr (Nat.le_of_lt l2))
    · exact absurd h1 (Nat.lt_irrefl _)
section
variable {w : World} {mean : ExcName → Option Value} {mg mb : Str → Option Value} {dp un : Nat} {gd : Option (List Code)} {cn : Str} {cs : Scope} {a : Addr} {ccd : Value} {cl : List (Str × Addr)} {outer : List Env} {A₀ : Around} {base h₀ : Heap} {L : Addr} {m : Str → Option Value} {s : Shared} {Q E : Value → Shared → Prop}
set_option maxRecDepth 100000 in
set_option maxHeartbeats 8000000 in
theorem rc_c {d : Array UInt8} {ks : List Int} {cnt ver : Int} {t1 : Tok} {news : List (Addr × Obj)} {fs : List FRes}
  (B : Below A₀ base outer h₀) (F : Fr h₀ L s.heap m) (X : (Mine.hd.heap_39 w.params).In h₀) (N : News h₀ L s.heap (news)) (T : Top Mine.hd.view_39 (looseW Mine.hd.view_39 [Str.ofString "ShapeError", Str.ofString "VERSIONS"]) mean mg mb h₀) (hk : cs.kind = .function)
  (hks : KBw.bInts d = ks) (hs : ks.length ≤ 1048576) (h12 : 12 ≤ ks.length) (hmag : beL ((ks.drop (0 : Int).toNat).take 4) = 1953784678) (hver : beL ((ks.drop (4 : Int).toNat).take 4) = ver) (hvv : ver = 65536 ∨ ver = 131072) (hcnt : beL ((ks.drop (4 + 4 : Int).toNat).take 4) = cnt) (hc1 : 0 < cnt) (hc2 : cnt ≤ 64) (hc3 : 12 + 4 * cnt ≤ (ks.length : Int)) (hfl : (fs.length : Int) ≤ cnt) (hfs : ∀ i (hi : i < fs.length), FontAt ks (beL ((ks.drop (12 + 4 * (i : Int)).toNat).take 4)) fs[i]) (hbad : (fs.length : Int) < cnt → FontBad ks (beL ((ks.drop (12 + 4 * (fs.length : Int)).toNat).take 4)))
  (hd : dp + 60 ≤ 450) (hu : un + 480 ≤ 1800)
  (hret : (fs.length : Int) = cnt → ∀ fl ys R h' tk', Fr h₀ L h' m → News h₀ L h' ((fl, PyProof.Rows.LCg.lst ys) :: (R ++ news)) → Items w (R ++ news) ys fs → OwnOff (R ++ news) [fl] → Q (.ref fl) { s with heap := h', toks := tk' })
  (hrai : (fs.length : Int) < cnt → ∀ e h' tk' G, Fr h₀ L G m → RaisedN base (envX cn cs L a ccd cl :: outer) e (.ref 73) (news) h' → G.UpToSlots h' → E (.ref e) { s with heap := h', toks := tk' }) :
  wpAny (model PySem.Challenge.rw_pb0178_01.row.prog w) (ktrTop dp un gd cn cs L a ccd cl outer) (call (.ref 263) [.bytes d t1]) Q E s := by
  obtain ⟨n9, hn9⟩ : ∃ N : Nat, (N : Int) = cnt := ⟨cnt.toNat, by lia⟩
  refine wpAny_call ?_
  k_dflt cell_enter
  repeat' (first | ((fail_if_success (with_reducible show LoopW _ _ _ _ _ _ _ _ _ _ _)); (first | ((with_reducible show wpAny _ _ (leaving _ _) _ _ _); k_dflt (refine rf_next (by assumption) (by assumption) rfl (by assumption) (by assumption) ?_; intro h8 R8 sm8)) | ((k_here; k_dflt ((with_reducible show wpAny _ _ (PySem.call (Value.ref 249) _ _) _ _ _); (refine' to2_c (by k_asm) (by k_asm) (by k_asm) (by k_asm) (by k_asm) (by first | exact rfl | assumption) (by assumption) (by assumption) (by k_mem) (by k_mem) (by k_mem) (by assumption) (by assumption) (by assumption) (by k_mem) (by k_mem) (by assumption) (by assumption) (by assumption) (by ktr_room) (by ktr_room) ?_); intro v9 h9 tk9 k901 v901 u901 k902 v902 u902 F9 N9 g1 b901 b902; (try dsimp only); (try k_fold)))) | ((k_here; k_dflt ((with_reducible show wpAny _ _ (PySem.call (Value.ref 249) _ _) _ _ _); (refine' to1_c (by k_asm) (by k_asm) (by k_asm) (by k_asm) (by k_asm) (by first | exact rfl | assumption) (by assumption) (by assumption) (by k_mem) (by k_mem) (by k_mem) (by assumption) (by assumption) (by assumption) (by ktr_room) (by ktr_room) ?_); intro v9 h9 tk9 k901 v901 u901 F9 N9 g1 b901; (try dsimp only); (try k_fold)))) | ((k_here; k_dflt ((with_reducible show wpAny _ _ (PySem.call (Value.ref 244) _ _) _ _ _); (refine' rr2_c (by k_asm) (by k_asm) (by k_asm) (by k_asm) (by k_asm) (by first | exact rfl | assumption) (by assumption) (by assumption) (by assumption) (by assumption) (by assumption) (by assumption) (by assumption) (by assumption) (by assumption) (by assumption) (by assumption) (by assumption) (by assumption) (by assumption) (by assumption) (by assumption) (by assumption) (by assumption) (by assumption) (by assumption) (by ktr_room) (by ktr_room) ?_); intro tp9 rl9 z901 dz901 wh901 y901 a901 b901 c901 e901 f901 g901 o901 p901 q901 r901 z902 dz902 wh902 y902 a902 b902 c902 e902 f902 g902 o902 p902 q902 r902 v9 tv9 h9 tk9 e9 F9 N9 g1 g2 g3; subst e9; (try dsimp only); (try k_fold)))) | ((k_here; k_dflt ((with_reducible show wpAny _ _ (PySem.call (Value.ref 244) _ _) _ _ _); (refine' rr1_c (by k_asm) (by k_asm) (by k_asm) (by k_asm) (by k_asm) (by first | exact rfl | assumption) (by assumption) (by assumption) (by assumption) (by assumption) (by assumption) (by assumption) (by assumption) (by assumption) (by assumption) (by assumption) (by assumption) (by assumption) (by assumption) (by ktr_room) (by ktr_room) ?_); intro tp9 rl9 z901 dz901 wh901 y901 a901 b901 c901 e901 f901 g901 o901 p901 q901 r901 v9 tv9 h9 tk9 e9 F9 N9 g1 g2 g3; subst e9; (try dsimp only); (try k_fold)))) | ((with_reducible show wpAny _ _ (exec (Stmt.For (Expr.Name _ _) (Expr.Call _ _ _ _) _ _ _) _) _ _ _); (k_here; k_dflt ((rename Fr _ _ _ _ => fL'); (with_unfolding_all refine For_WF fL' ?_)))) | ((with_reducible show wpAny _ _ (PySem.call (Value.type "range") _ _) _ _ _); (k_here; k_dflt ((rename Fr _ _ _ _ => fR'); (rename News _ _ _ _ => nR'); (with_unfolding_all refine range1_rows fR' nR' ?_); intro _ _ _ _ _ _ _ _ _))) | ((with_reducible show wpAny _ _ (compareOp CmpOp.NotIn (Value.int _ _) (Value.ref _)) _ _ _); (k_here; k_dflt ((first | refine notin_two (by assumption) (.head _) (iff_t (by assumption)) ?_ | refine notin_two (by assumption) (.head _) (iff_f (by assumption)) ?_); (try dsimp only [Bool.not_true, Bool.not_false]); (rename News _ _ _ ((_, _) :: _) => nZ); (have nY := news_tail nZ); clear nZ))) | ((k_here; k_dflt ((with_reducible show wpAny _ _ (PySem.call (Value.ref 160) _ _) _ _ _); (refine' u32_c (by k_asm) (by k_asm) (by k_asm) (by k_asm) (by k_asm) (by first | exact rfl | assumption) (by ktr_rel) (by cb_room) (by first | assumption | exact rfl) (by cb_room) (by first | cb_room | (simp only [List.length_append, List.length_take, List.length_drop, List.length_cons, List.length_nil]; lia)) (by cb_room) (by ktr_room) (by ktr_units) ?_); intro v9 t9 t8 h9 tk9 e9 F9 N9; (first | (have e8 := Eq.trans e9 (by assumption); subst e8) | skip); (try dsimp only); (try k_fold)))) | ((k_here; k_dflt ((with_reducible show wpAny _ _ (PySem.call (Value.ref 89) _ _) _ _ _); (refine' number_c (by k_asm) (by k_asm) (by k_asm) (by k_asm) (by k_asm) (by first | exact rfl | assumption) (by first | assumption | exact rfl) (by cb_room) (by cb_room) (by first | cb_room | (simp only [List.length_append, List.length_take, List.length_drop, List.length_cons, List.length_nil]; lia)) (by cb_room) (by cb_room) (by ktr_room) (by ktr_units) ?_); intro v9 t9 h9 tk9 e9 F9 N9; (first | (have e8 := Eq.trans e9 (by assumption); subst e8) | skip); (try dsimp only); (try k_fold)))) | ((with_reducible show wpAny _ _ (leaving _ _) _ _ _); k_dflt (refine rf_first (by assumption) (by assumption) (news_tail (by assumption)) rfl rfl (News.get (by assumption) (.head _)) (by assumption) (by assumption) (g_none (by assumption)) (g_ne (by assumption)) (by assumption) ?_; intro h8 R8 sm8)) | ((k_here; k_dflt ((with_reducible show wpAny _ _ (PySem.call (Value.ref 73) [Value.str _ _, Value.int _ _] _) _ _ _); (refine' ff_c (by k_asm) (by k_asm) (by k_asm) (by k_asm) (by k_asm) (by first | exact rfl | assumption) (by ktr_room) (by ktr_room) ?_); intro e9 h9 tk9 o9 t9 F9 N9 ne9 hc9 hd9; (refine ⟨_, _, _, rfl, in73F (by k_asm) F9, (N9 _ (.head _)).1, hc9, hd9, ?_⟩)))) | ((with_reducible show wpAny _ _ (exec (Stmt.Raise (some _) none _) _) _ _ _); (k_here; k_dflt (refine Raise_F rfl ?_))) | (with_reducible ((k_here; (with_reducible show wpAny _ _ (subscriptTail _ (Expr.Slice _ _ none _) (Value.bytes _ _) (Value.ref _)) _ _ _); (with_reducible rename Fr _ _ _ _ => F'); (with_reducible rename News _ _ _ _ => N'); (first | (refine sliceIJ (s := ⟨_, _, _, _, _⟩) F' N' (by assumption) (by lia) (by lia) (by first | lia | (simp only [List.length_append, List.length_take, List.length_drop, List.length_cons, List.length_nil]; lia)) (by lia) ?_ (by with_unfolding_all rfl) (by intro _; with_unfolding_all rfl)) | (refine sliceI (s := ⟨_, _, _, _, _⟩) F' N' (by assumption) (by lia) (by first | lia | (simp only [List.length_append, List.length_take, List.length_drop, List.length_cons, List.length_nil]; lia)) (by lia) ?_ (by with_unfolding_all rfl) (by intro _; with_unfolding_all rfl)) | (refine sliceJ (s := ⟨_, _, _, _, _⟩) F' N' (by assumption) (by lia) (by first | lia | (simp only [List.length_append, List.length_take, List.length_drop, List.length_cons, List.length_nil]; lia)) (by lia) ?_ (by with_unfolding_all rfl) (by intro _; with_unfolding_all rfl))); intro bS' hS' tS' kS' fS' nS' eS'; clear F' N'))) | (k_unfold; (try dsimp only)) | (k_end; wrow_close) | walk1 | (dsimp only; walk1))))
  (rename (∀ (b : Addr) (o : Obj), Heap.get? _ b = some o → _) => hkp; clear hkp)
  (rename IsRange _ _ _ _ _ _ _ _ => hIR)
  (rename News _ _ _ _ => nR)
  (rename Fr _ _ _ _ => fR)
  (rename _ ∧ _ ∧ AllLt _ _ => l9)
  (rename @LT.lt Nat _ _ _ => l8)
  (rename (∀ (p : Addr × Obj), p ∈ news → p.1 < _) => l7)
  refine LoopW.mk (fun i m' n' => i ≤ fs.length ∧ RcJ w fs d t1 _ _ _ _ _ news _ i m' n') (fun _ => True) (fun i v => ∃ t, v = .int (0 + i * 1) t) n9 fR (news_rot3 nR) trivial ⟨Nat.zero_le _, rcj0 l7 l8 l9⟩ (iter_range hIR ?sm ?sz rfl fR (news_rot3 nR)) ?step ?fin
  case sz => simp [Builtin.Range.rangeSize]; lia
  case sm => exact range_small (n := n9) (by simp [Builtin.Range.rangeSize]; lia) (by lia) (by lia) (by lia) (by lia) (by decide) (by decide) (by lia)
  case step =>
    intro i v I oI m₁ news₁ h tk hi hP hJ _ F₁ N₁ off₁
    clear nR fR
    obtain ⟨tt, rfl⟩ := hP
    obtain ⟨hle, ⟨a, b, c, rfl⟩, ys, R, t8, rfl, hIt, hoff⟩ := hJ
    have hx1 := off₁ _ (.head _)
    have hx2 := off₁ _ (.tail _ (.head _))
    have hx3 := off₁ _ (.tail _ (.tail _ (.head _)))
    have N₂ := news_in3 N₁
    have l3 := l9.1
    have l4 := l9.2.1
    dsimp only [envOf] at F₁ N₂ hx1 hx2 hx3
    have hO := own_fl (o := PyProof.Rows.LCg.lst ys) hoff l3 l4 hx1 hx2 (oI := oI)
    clear N₁
    obtain ⟨bb, hbb⟩ : ∃ bb, beL ((ks.drop (12 + 4 * (i : Int)).toNat).take 4) = bb := ⟨_, rfl⟩
    repeat' (first | ((fail_if_success (with_reducible show wpAny _ _ (PySem.call (Value.ref 244) _ _) _ _ _)); (first | ((with_reducible show wpAny _ _ (leaving _ _) _ _ _); k_dflt (refine rf_next (by assumption) (by assumption) rfl (by assumption) (by assumption) ?_; intro h8 R8 sm8)) | ((k_here; k_dflt ((with_reducible show wpAny _ _ (PySem.call (Value.ref 249) _ _) _ _ _); (refine' to2_c (by k_asm) (by k_asm) (by k_asm) (by k_asm) (by k_asm) (by first | exact rfl | assumption) (by assumption) (by assumption) (by k_mem) (by k_mem) (by k_mem) (by assumption) (by assumption) (by assumption) (by k_mem) (by k_mem) (by assumption) (by assumption) (by assumption) (by ktr_room) (by ktr_room) ?_); intro v9 h9 tk9 k901 v901 u901 k902 v902 u902 F9 N9 g1 b901 b902; (try dsimp only); (try k_fold)))) | ((k_here; k_dflt ((with_reducible show wpAny _ _ (PySem.call (Value.ref 249) _ _) _ _ _); (refine' to1_c (by k_asm) (by k_asm) (by k_asm) (by k_asm) (by k_asm) (by first | exact rfl | assumption) (by assumption) (by assumption) (by k_mem) (by k_mem) (by k_mem) (by assumption) (by assumption) (by assumption) (by ktr_room) (by ktr_room) ?_); intro v9 h9 tk9 k901 v901 u901 F9 N9 g1 b901; (try dsimp only); (try k_fold)))) | ((k_here; k_dflt ((with_reducible show wpAny _ _ (PySem.call (Value.ref 244) _ _) _ _ _); (refine' rr2_c (by k_asm) (by k_asm) (by k_asm) (by k_asm) (by k_asm) (by first | exact rfl | assumption) (by assumption) (by assumption) (by assumption) (by assumption) (by assumption) (by assumption) (by assumption) (by assumption) (by assumption) (by assumption) (by assumption) (by assumption) (by assumption) (by assumption) (by assumption) (by assumption) (by assumption) (by assumption) (by assumption) (by assumption) (by ktr_room) (by ktr_room) ?_); intro tp9 rl9 z901 dz901 wh901 y901 a901 b901 c901 e901 f901 g901 o901 p901 q901 r901 z902 dz902 wh902 y902 a902 b902 c902 e902 f902 g902 o902 p902 q902 r902 v9 tv9 h9 tk9 e9 F9 N9 g1 g2 g3; subst e9; (try dsimp only); (try k_fold)))) | ((k_here; k_dflt ((with_reducible show wpAny _ _ (PySem.call (Value.ref 244) _ _) _ _ _); (refine' rr1_c (by k_asm) (by k_asm) (by k_asm) (by k_asm) (by k_asm) (by first | exact rfl | assumption) (by assumption) (by assumption) (by assumption) (by assumption) (by assumption) (by assumption) (by assumption) (by assumption) (by assumption) (by assumption) (by assumption) (by assumption) (by assumption) (by ktr_room) (by ktr_room) ?_); intro tp9 rl9 z901 dz901 wh901 y901 a901 b901 c901 e901 f901 g901 o901 p901 q901 r901 v9 tv9 h9 tk9 e9 F9 N9 g1 g2 g3; subst e9; (try dsimp only); (try k_fold)))) | ((with_reducible show wpAny _ _ (exec (Stmt.For (Expr.Name _ _) (Expr.Call _ _ _ _) _ _ _) _) _ _ _); (k_here; k_dflt ((rename Fr _ _ _ _ => fL'); (with_unfolding_all refine For_WF fL' ?_)))) | ((with_reducible show wpAny _ _ (PySem.call (Value.type "range") _ _) _ _ _); (k_here; k_dflt ((rename Fr _ _ _ _ => fR'); (rename News _ _ _ _ => nR'); (with_unfolding_all refine range1_rows fR' nR' ?_); intro _ _ _ _ _ _ _ _ _))) | ((with_reducible show wpAny _ _ (compareOp CmpOp.NotIn (Value.int _ _) (Value.ref _)) _ _ _); (k_here; k_dflt ((first | refine notin_two (by assumption) (.head _) (iff_t (by assumption)) ?_ | refine notin_two (by assumption) (.head _) (iff_f (by assumption)) ?_); (try dsimp only [Bool.not_true, Bool.not_false]); (rename News _ _ _ ((_, _) :: _) => nZ); (have nY := news_tail nZ); clear nZ))) | ((k_here; k_dflt ((with_reducible show wpAny _ _ (PySem.call (Value.ref 160) _ _) _ _ _); (refine' u32_c (by k_asm) (by k_asm) (by k_asm) (by k_asm) (by k_asm) (by first | exact rfl | assumption) (by ktr_rel) (by cb_room) (by first | assumption | exact rfl) (by cb_room) (by first | cb_room | (simp only [List.length_append, List.length_take, List.length_drop, List.length_cons, List.length_nil]; lia)) (by cb_room) (by ktr_room) (by ktr_units) ?_); intro v9 t9 t8 h9 tk9 e9 F9 N9; (first | (have e8 := Eq.trans e9 (by assumption); subst e8) | skip); (try dsimp only); (try k_fold)))) | ((k_here; k_dflt ((with_reducible show wpAny _ _ (PySem.call (Value.ref 89) _ _) _ _ _); (refine' number_c (by k_asm) (by k_asm) (by k_asm) (by k_asm) (by k_asm) (by first | exact rfl | assumption) (by first | assumption | exact rfl) (by cb_room) (by cb_room) (by first | cb_room | (simp only [List.length_append, List.length_take, List.length_drop, List.length_cons, List.length_nil]; lia)) (by cb_room) (by cb_room) (by ktr_room) (by ktr_units) ?_); intro v9 t9 h9 tk9 e9 F9 N9; (first | (have e8 := Eq.trans e9 (by assumption); subst e8) | skip); (try dsimp only); (try k_fold)))) | ((with_reducible show wpAny _ _ (leaving _ _) _ _ _); k_dflt (refine rf_first (by assumption) (by assumption) (news_tail (by assumption)) rfl rfl (News.get (by assumption) (.head _)) (by assumption) (by assumption) (g_none (by assumption)) (g_ne (by assumption)) (by assumption) ?_; intro h8 R8 sm8)) | ((k_here; k_dflt ((with_reducible show wpAny _ _ (PySem.call (Value.ref 73) [Value.str _ _, Value.int _ _] _) _ _ _); (refine' ff_c (by k_asm) (by k_asm) (by k_asm) (by k_asm) (by k_asm) (by first | exact rfl | assumption) (by ktr_room) (by ktr_room) ?_); intro e9 h9 tk9 o9 t9 F9 N9 ne9 hc9 hd9; (refine ⟨_, _, _, rfl, in73F (by k_asm) F9, (N9 _ (.head _)).1, hc9, hd9, ?_⟩)))) | ((with_reducible show wpAny _ _ (exec (Stmt.Raise (some _) none _) _) _ _ _); (k_here; k_dflt (refine Raise_F rfl ?_))) | (with_reducible ((k_here; (with_reducible show wpAny _ _ (subscriptTail _ (Expr.Slice _ _ none _) (Value.bytes _ _) (Value.ref _)) _ _ _); (with_reducible rename Fr _ _ _ _ => F'); (with_reducible rename News _ _ _ _ => N'); (first | (refine sliceIJ (s := ⟨_, _, _, _, _⟩) F' N' (by assumption) (by lia) (by lia) (by first | lia | (simp only [List.length_append, List.length_take, List.length_drop, List.length_cons, List.length_nil]; lia)) (by lia) ?_ (by with_unfolding_all rfl) (by intro _; with_unfolding_all rfl)) | (refine sliceI (s := ⟨_, _, _, _, _⟩) F' N' (by assumption) (by lia) (by first | lia | (simp only [List.length_append, List.length_take, List.length_drop, List.length_cons, List.length_nil]; lia)) (by lia) ?_ (by with_unfolding_all rfl) (by intro _; with_unfolding_all rfl)) | (refine sliceJ (s := ⟨_, _, _, _, _⟩) F' N' (by assumption) (by lia) (by first | lia | (simp only [List.length_append, List.length_take, List.length_drop, List.length_cons, List.length_nil]; lia)) (by lia) ?_ (by with_unfolding_all rfl) (by intro _; with_unfolding_all rfl))); intro bS' hS' tS' kS' fS' nS' eS'; clear F' N'))) | (k_unfold; (try dsimp only)) | (k_end; wrow_close) | walk1 | (dsimp only; walk1))))
    by_cases hif : i = fs.length
    · have hbd := hbad (by lia)
      rw [← hif, hbb] at hbd
      rcases hbd with ⟨h0, h1⟩ | ⟨h0, h1, hv⟩
      · (show wpAny _ _ (PySem.call (Value.ref 244) _ _) _ _ _)
        (refine' rrF1_c ?kB ?kF ?kX ?kN ?kT ?kk ?s0 ?s1 ?s2 ?s3 ?kd ?ku ?_)
        (case kB => k_asm)
        (case kF => k_asm)
        (case kX => k_asm)
        (case kN => k_asm)
        (case kT => k_asm)
        (case kk => first | exact rfl | assumption)
        (case s0 => assumption)
        (case s1 => assumption)
        (case s2 => assumption)
        (case s3 => assumption)
        (case kd => ktr_room)
        (case ku => ktr_room)
        intro e9 h9 tk9 G9 F9 R9 U9
        (try dsimp only)
        (try k_fold)
        (repeat' (first | ((with_reducible show wpAny _ _ (leaving _ _) _ _ _); k_dflt (refine rf_next (by assumption) (by assumption) rfl (by assumption) (by assumption) ?_; intro h8 R8 sm8)) | ((k_here; k_dflt ((with_reducible show wpAny _ _ (PySem.call (Value.ref 249) _ _) _ _ _); (refine' to2_c (by k_asm) (by k_asm) (by k_asm) (by k_asm) (by k_asm) (by first | exact rfl | assumption) (by assumption) (by assumption) (by k_mem) (by k_mem) (by k_mem) (by assumption) (by assumption) (by assumption) (by k_mem) (by k_mem) (by assumption) (by assumption) (by assumption) (by ktr_room) (by ktr_room) ?_); intro v9 h9 tk9 k901 v901 u901 k902 v902 u902 F9 N9 g1 b901 b902; (try dsimp only); (try k_fold)))) | ((k_here; k_dflt ((with_reducible show wpAny _ _ (PySem.call (Value.ref 249) _ _) _ _ _); (refine' to1_c (by k_asm) (by k_asm) (by k_asm) (by k_asm) (by k_asm) (by first | exact rfl | assumption) (by assumption) (by assumption) (by k_mem) (by k_mem) (by k_mem) (by assumption) (by assumption) (by assumption) (by ktr_room) (by ktr_room) ?_); intro v9 h9 tk9 k901 v901 u901 F9 N9 g1 b901; (try dsimp only); (try k_fold)))) | ((k_here; k_dflt ((with_reducible show wpAny _ _ (PySem.call (Value.ref 244) _ _) _ _ _); (refine' rr2_c (by k_asm) (by k_asm) (by k_asm) (by k_asm) (by k_asm) (by first | exact rfl | assumption) (by assumption) (by assumption) (by assumption) (by assumption) (by assumption) (by assumption) (by assumption) (by assumption) (by assumption) (by assumption) (by assumption) (by assumption) (by assumption) (by assumption) (by assumption) (by assumption) (by assumption) (by assumption) (by assumption) (by assumption) (by ktr_room) (by ktr_room) ?_); intro tp9 rl9 z901 dz901 wh901 y901 a901 b901 c901 e901 f901 g901 o901 p901 q901 r901 z902 dz902 wh902 y902 a902 b902 c902 e902 f902 g902 o902 p902 q902 r902 v9 tv9 h9 tk9 e9 F9 N9 g1 g2 g3; subst e9; (try dsimp only); (try k_fold)))) | ((k_here; k_dflt ((with_reducible show wpAny _ _ (PySem.call (Value.ref 244) _ _) _ _ _); (refine' rr1_c (by k_asm) (by k_asm) (by k_asm) (by k_asm) (by k_asm) (by first | exact rfl | assumption) (by assumption) (by assumption) (by assumption) (by assumption) (by assumption) (by assumption) (by assumption) (by assumption) (by assumption) (by assumption) (by assumption) (by assumption) (by assumption) (by ktr_room) (by ktr_room) ?_); intro tp9 rl9 z901 dz901 wh901 y901 a901 b901 c901 e901 f901 g901 o901 p901 q901 r901 v9 tv9 h9 tk9 e9 F9 N9 g1 g2 g3; subst e9; (try dsimp only); (try k_fold)))) | ((with_reducible show wpAny _ _ (exec (Stmt.For (Expr.Name _ _) (Expr.Call _ _ _ _) _ _ _) _) _ _ _); (k_here; k_dflt ((rename Fr _ _ _ _ => fL'); (with_unfolding_all refine For_WF fL' ?_)))) | ((with_reducible show wpAny _ _ (PySem.call (Value.type "range") _ _) _ _ _); (k_here; k_dflt ((rename Fr _ _ _ _ => fR'); (rename News _ _ _ _ => nR'); (with_unfolding_all refine range1_rows fR' nR' ?_); intro _ _ _ _ _ _ _ _ _))) | ((with_reducible show wpAny _ _ (compareOp CmpOp.NotIn (Value.int _ _) (Value.ref _)) _ _ _); (k_here; k_dflt ((first | refine notin_two (by assumption) (.head _) (iff_t (by assumption)) ?_ | refine notin_two (by assumption) (.head _) (iff_f (by assumption)) ?_); (try dsimp only [Bool.not_true, Bool.not_false]); (rename News _ _ _ ((_, _) :: _) => nZ); (have nY := news_tail nZ); clear nZ))) | ((k_here; k_dflt ((with_reducible show wpAny _ _ (PySem.call (Value.ref 160) _ _) _ _ _); (refine' u32_c (by k_asm) (by k_asm) (by k_asm) (by k_asm) (by k_asm) (by first | exact rfl | assumption) (by ktr_rel) (by cb_room) (by first | assumption | exact rfl) (by cb_room) (by first | cb_room | (simp only [List.length_append, List.length_take, List.length_drop, List.length_cons, List.length_nil]; lia)) (by cb_room) (by ktr_room) (by ktr_units) ?_); intro v9 t9 t8 h9 tk9 e9 F9 N9; (first | (have e8 := Eq.trans e9 (by assumption); subst e8) | skip); (try dsimp only); (try k_fold)))) | ((k_here; k_dflt ((with_reducible show wpAny _ _ (PySem.call (Value.ref 89) _ _) _ _ _); (refine' number_c (by k_asm) (by k_asm) (by k_asm) (by k_asm) (by k_asm) (by first | exact rfl | assumption) (by first | assumption | exact rfl) (by cb_room) (by cb_room) (by first | cb_room | (simp only [List.length_append, List.length_take, List.length_drop, List.length_cons, List.length_nil]; lia)) (by cb_room) (by cb_room) (by ktr_room) (by ktr_units) ?_); intro v9 t9 h9 tk9 e9 F9 N9; (first | (have e8 := Eq.trans e9 (by assumption); subst e8) | skip); (try dsimp only); (try k_fold)))) | ((with_reducible show wpAny _ _ (leaving _ _) _ _ _); k_dflt (refine rf_first (by assumption) (by assumption) (news_tail (by assumption)) rfl rfl (News.get (by assumption) (.head _)) (by assumption) (by assumption) (g_none (by assumption)) (g_ne (by assumption)) (by assumption) ?_; intro h8 R8 sm8)) | ((k_here; k_dflt ((with_reducible show wpAny _ _ (PySem.call (Value.ref 73) [Value.str _ _, Value.int _ _] _) _ _ _); (refine' ff_c (by k_asm) (by k_asm) (by k_asm) (by k_asm) (by k_asm) (by first | exact rfl | assumption) (by ktr_room) (by ktr_room) ?_); intro e9 h9 tk9 o9 t9 F9 N9 ne9 hc9 hd9; (refine ⟨_, _, _, rfl, in73F (by k_asm) F9, (N9 _ (.head _)).1, hc9, hd9, ?_⟩)))) | ((with_reducible show wpAny _ _ (exec (Stmt.Raise (some _) none _) _) _ _ _); (k_here; k_dflt (refine Raise_F rfl ?_))) | (with_reducible ((k_here; (with_reducible show wpAny _ _ (subscriptTail _ (Expr.Slice _ _ none _) (Value.bytes _ _) (Value.ref _)) _ _ _); (with_reducible rename Fr _ _ _ _ => F'); (with_reducible rename News _ _ _ _ => N'); (first | (refine sliceIJ (s := ⟨_, _, _, _, _⟩) F' N' (by assumption) (by lia) (by lia) (by first | lia | (simp only [List.length_append, List.length_take, List.length_drop, List.length_cons, List.length_nil]; lia)) (by lia) ?_ (by with_unfolding_all rfl) (by intro _; with_unfolding_all rfl)) | (refine sliceI (s := ⟨_, _, _, _, _⟩) F' N' (by assumption) (by lia) (by first | lia | (simp only [List.length_append, List.length_take, List.length_drop, List.length_cons, List.length_nil]; lia)) (by lia) ?_ (by with_unfolding_all rfl) (by intro _; with_unfolding_all rfl)) | (refine sliceJ (s := ⟨_, _, _, _, _⟩) F' N' (by assumption) (by lia) (by first | lia | (simp only [List.length_append, List.length_take, List.length_drop, List.length_cons, List.length_nil]; lia)) (by lia) ?_ (by with_unfolding_all rfl) (by intro _; with_unfolding_all rfl))); intro bS' hS' tS' kS' fS' nS' eS'; clear F' N'))) | (k_unfold; (try dsimp only)) | (k_end; wrow_close) | walk1 | (dsimp only; walk1) | (leave1; walk_say "STEP leave1"; try dsimp only) | fail "no step"))
        exact hrai (by lia) _ _ _ _ (by assumption) (RaisedN.sub (by assumption) sub_news) (by assumption)
      · (show wpAny _ _ (PySem.call (Value.ref 244) _ _) _ _ _)
        (refine' rrF2_c ?kB ?kF ?kX ?kN ?kT ?kk ?s0 ?s1 ?s2 ?s3 ?s4 ?kd ?ku ?_)
        (case kB => k_asm)
        (case kF => k_asm)
        (case kX => k_asm)
        (case kN => k_asm)
        (case kT => k_asm)
        (case kk => first | exact rfl | assumption)
        (case s0 => assumption)
        (case s1 => assumption)
        (case s2 => assumption)
        (case s3 => assumption)
        (case s4 => assumption)
        (case kd => ktr_room)
        (case ku => ktr_room)
        intro e9 h9 tk9 G9 F9 R9 U9
        (try dsimp only)
        (try k_fold)
        (repeat' (first | ((with_reducible show wpAny _ _ (leaving _ _) _ _ _); k_dflt (refine rf_next (by assumption) (by assumption) rfl (by assumption) (by assumption) ?_; intro h8 R8 sm8)) | ((k_here; k_dflt ((with_reducible show wpAny _ _ (PySem.call (Value.ref 249) _ _) _ _ _); (refine' to2_c (by k_asm) (by k_asm) (by k_asm) (by k_asm) (by k_asm) (by first | exact rfl | assumption) (by assumption) (by assumption) (by k_mem) (by k_mem) (by k_mem) (by assumption) (by assumption) (by assumption) (by k_mem) (by k_mem) (by assumption) (by assumption) (by assumption) (by ktr_room) (by ktr_room) ?_); intro v9 h9 tk9 k901 v901 u901 k902 v902 u902 F9 N9 g1 b901 b902; (try dsimp only); (try k_fold)))) | ((k_here; k_dflt ((with_reducible show wpAny _ _ (PySem.call (Value.ref 249) _ _) _ _ _); (refine' to1_c (by k_asm) (by k_asm) (by k_asm) (by k_asm) (by k_asm) (by first | exact rfl | assumption) (by assumption) (by assumption) (by k_mem) (by k_mem) (by k_mem) (by assumption) (by assumption) (by assumption) (by ktr_room) (by ktr_room) ?_); intro v9 h9 tk9 k901 v901 u901 F9 N9 g1 b901; (try dsimp only); (try k_fold)))) | ((k_here; k_dflt ((with_reducible show wpAny _ _ (PySem.call (Value.ref 244) _ _) _ _ _); (refine' rr2_c (by k_asm) (by k_asm) (by k_asm) (by k_asm) (by k_asm) (by first | exact rfl | assumption) (by assumption) (by assumption) (by assumption) (by assumption) (by assumption) (by assumption) (by assumption) (by assumption) (by assumption) (by assumption) (by assumption) (by assumption) (by assumption) (by assumption) (by assumption) (by assumption) (by assumption) (by assumption) (by assumption) (by assumption) (by ktr_room) (by ktr_room) ?_); intro tp9 rl9 z901 dz901 wh901 y901 a901 b901 c901 e901 f901 g901 o901 p901 q901 r901 z902 dz902 wh902 y902 a902 b902 c902 e902 f902 g902 o902 p902 q902 r902 v9 tv9 h9 tk9 e9 F9 N9 g1 g2 g3; subst e9; (try dsimp only); (try k_fold)))) | ((k_here; k_dflt ((with_reducible show wpAny _ _ (PySem.call (Value.ref 244) _ _) _ _ _); (refine' rr1_c (by k_asm) (by k_asm) (by k_asm) (by k_asm) (by k_asm) (by first | exact rfl | assumption) (by assumption) (by assumption) (by assumption) (by assumption) (by assumption) (by assumption) (by assumption) (by assumption) (by assumption) (by assumption) (by assumption) (by assumption) (by assumption) (by ktr_room) (by ktr_room) ?_); intro tp9 rl9 z901 dz901 wh901 y901 a901 b901 c901 e901 f901 g901 o901 p901 q901 r901 v9 tv9 h9 tk9 e9 F9 N9 g1 g2 g3; subst e9; (try dsimp only); (try k_fold)))) | ((with_reducible show wpAny _ _ (exec (Stmt.For (Expr.Name _ _) (Expr.Call _ _ _ _) _ _ _) _) _ _ _); (k_here; k_dflt ((rename Fr _ _ _ _ => fL'); (with_unfolding_all refine For_WF fL' ?_)))) | ((with_reducible show wpAny _ _ (PySem.call (Value.type "range") _ _) _ _ _); (k_here; k_dflt ((rename Fr _ _ _ _ => fR'); (rename News _ _ _ _ => nR'); (with_unfolding_all refine range1_rows fR' nR' ?_); intro _ _ _ _ _ _ _ _ _))) | ((with_reducible show wpAny _ _ (compareOp CmpOp.NotIn (Value.int _ _) (Value.ref _)) _ _ _); (k_here; k_dflt ((first | refine notin_two (by assumption) (.head _) (iff_t (by assumption)) ?_ | refine notin_two (by assumption) (.head _) (iff_f (by assumption)) ?_); (try dsimp only [Bool.not_true, Bool.not_false]); (rename News _ _ _ ((_, _) :: _) => nZ); (have nY := news_tail nZ); clear nZ))) | ((k_here; k_dflt ((with_reducible show wpAny _ _ (PySem.call (Value.ref 160) _ _) _ _ _); (refine' u32_c (by k_asm) (by k_asm) (by k_asm) (by k_asm) (by k_asm) (by first | exact rfl | assumption) (by ktr_rel) (by cb_room) (by first | assumption | exact rfl) (by cb_room) (by first | cb_room | (simp only [List.length_append, List.length_take, List.length_drop, List.length_cons, List.length_nil]; lia)) (by cb_room) (by ktr_room) (by ktr_units) ?_); intro v9 t9 t8 h9 tk9 e9 F9 N9; (first | (have e8 := Eq.trans e9 (by assumption); subst e8) | skip); (try dsimp only); (try k_fold)))) | ((k_here; k_dflt ((with_reducible show wpAny _ _ (PySem.call (Value.ref 89) _ _) _ _ _); (refine' number_c (by k_asm) (by k_asm) (by k_asm) (by k_asm) (by k_asm) (by first | exact rfl | assumption) (by first | assumption | exact rfl) (by cb_room) (by cb_room) (by first | cb_room | (simp only [List.length_append, List.length_take, List.length_drop, List.length_cons, List.length_nil]; lia)) (by cb_room) (by cb_room) (by ktr_room) (by ktr_units) ?_); intro v9 t9 h9 tk9 e9 F9 N9; (first | (have e8 := Eq.trans e9 (by assumption); subst e8) | skip); (try dsimp only); (try k_fold)))) | ((with_reducible show wpAny _ _ (leaving _ _) _ _ _); k_dflt (refine rf_first (by assumption) (by assumption) (news_tail (by assumption)) rfl rfl (News.get (by assumption) (.head _)) (by assumption) (by assumption) (g_none (by assumption)) (g_ne (by assumption)) (by assumption) ?_; intro h8 R8 sm8)) | ((k_here; k_dflt ((with_reducible show wpAny _ _ (PySem.call (Value.ref 73) [Value.str _ _, Value.int _ _] _) _ _ _); (refine' ff_c (by k_asm) (by k_asm) (by k_asm) (by k_asm) (by k_asm) (by first | exact rfl | assumption) (by ktr_room) (by ktr_room) ?_); intro e9 h9 tk9 o9 t9 F9 N9 ne9 hc9 hd9; (refine ⟨_, _, _, rfl, in73F (by k_asm) F9, (N9 _ (.head _)).1, hc9, hd9, ?_⟩)))) | ((with_reducible show wpAny _ _ (exec (Stmt.Raise (some _) none _) _) _ _ _); (k_here; k_dflt (refine Raise_F rfl ?_))) | (with_reducible ((k_here; (with_reducible show wpAny _ _ (subscriptTail _ (Expr.Slice _ _ none _) (Value.bytes _ _) (Value.ref _)) _ _ _); (with_reducible rename Fr _ _ _ _ => F'); (with_reducible rename News _ _ _ _ => N'); (first | (refine sliceIJ (s := ⟨_, _, _, _, _⟩) F' N' (by assumption) (by lia) (by lia) (by first | lia | (simp only [List.length_append, List.length_take, List.length_drop, List.length_cons, List.length_nil]; lia)) (by lia) ?_ (by with_unfolding_all rfl) (by intro _; with_unfolding_all rfl)) | (refine sliceI (s := ⟨_, _, _, _, _⟩) F' N' (by assumption) (by lia) (by first | lia | (simp only [List.length_append, List.length_take, List.length_drop, List.length_cons, List.length_nil]; lia)) (by lia) ?_ (by with_unfolding_all rfl) (by intro _; with_unfolding_all rfl)) | (refine sliceJ (s := ⟨_, _, _, _, _⟩) F' N' (by assumption) (by lia) (by first | lia | (simp only [List.length_append, List.length_take, List.length_drop, List.length_cons, List.length_nil]; lia)) (by lia) ?_ (by with_unfolding_all rfl) (by intro _; with_unfolding_all rfl))); intro bS' hS' tS' kS' fS' nS' eS'; clear F' N'))) | (k_unfold; (try dsimp only)) | (k_end; wrow_close) | walk1 | (dsimp only; walk1) | (leave1; walk_say "STEP leave1"; try dsimp only) | fail "no step"))
        exact hrai (by lia) _ _ _ _ (by assumption) (RaisedN.sub (by assumption) sub_news) (by assumption)
    have hi : i < fs.length := by lia
    have hfi := hfs i hi
    obtain ⟨f, hf⟩ : ∃ f, f = fs[i] := ⟨_, rfl⟩
    rw [← hf] at hfi
    have hst : fs.take (i + 1) = fs.take i ++ [f] := by rw [hf]; exact List.take_succ_eq_append_getElem hi
    rw [hbb] at hfi
    cases hfi with
    | one h0 h1 hv hcnt bq1 lq1 lz1 be1 tg1 hw1 bz1 hpos =>
      (repeat' (first | ((with_reducible show wpAny _ _ (leaving _ _) _ _ _); k_dflt (refine rf_next (by assumption) (by assumption) rfl (by assumption) (by assumption) ?_; intro h8 R8 sm8)) | ((k_here; k_dflt ((with_reducible show wpAny _ _ (PySem.call (Value.ref 249) _ _) _ _ _); (refine' to2_c (by k_asm) (by k_asm) (by k_asm) (by k_asm) (by k_asm) (by first | exact rfl | assumption) (by assumption) (by assumption) (by k_mem) (by k_mem) (by k_mem) (by assumption) (by assumption) (by assumption) (by k_mem) (by k_mem) (by assumption) (by assumption) (by assumption) (by ktr_room) (by ktr_room) ?_); intro v9 h9 tk9 k901 v901 u901 k902 v902 u902 F9 N9 g1 b901 b902; (try dsimp only); (try k_fold)))) | ((k_here; k_dflt ((with_reducible show wpAny _ _ (PySem.call (Value.ref 249) _ _) _ _ _); (refine' to1_c (by k_asm) (by k_asm) (by k_asm) (by k_asm) (by k_asm) (by first | exact rfl | assumption) (by assumption) (by assumption) (by k_mem) (by k_mem) (by k_mem) (by assumption) (by assumption) (by assumption) (by ktr_room) (by ktr_room) ?_); intro v9 h9 tk9 k901 v901 u901 F9 N9 g1 b901; (try dsimp only); (try k_fold)))) | ((k_here; k_dflt ((with_reducible show wpAny _ _ (PySem.call (Value.ref 244) _ _) _ _ _); (refine' rr2_c (by k_asm) (by k_asm) (by k_asm) (by k_asm) (by k_asm) (by first | exact rfl | assumption) (by assumption) (by assumption) (by assumption) (by assumption) (by assumption) (by assumption) (by assumption) (by assumption) (by assumption) (by assumption) (by assumption) (by assumption) (by assumption) (by assumption) (by assumption) (by assumption) (by assumption) (by assumption) (by assumption) (by assumption) (by ktr_room) (by ktr_room) ?_); intro tp9 rl9 z901 dz901 wh901 y901 a901 b901 c901 e901 f901 g901 o901 p901 q901 r901 z902 dz902 wh902 y902 a902 b902 c902 e902 f902 g902 o902 p902 q902 r902 v9 tv9 h9 tk9 e9 F9 N9 g1 g2 g3; subst e9; (try dsimp only); (try k_fold)))) | ((k_here; k_dflt ((with_reducible show wpAny _ _ (PySem.call (Value.ref 244) _ _) _ _ _); (refine' rr1_c (by k_asm) (by k_asm) (by k_asm) (by k_asm) (by k_asm) (by first | exact rfl | assumption) (by assumption) (by assumption) (by assumption) (by assumption) (by assumption) (by assumption) (by assumption) (by assumption) (by assumption) (by assumption) (by assumption) (by assumption) (by assumption) (by ktr_room) (by ktr_room) ?_); intro tp9 rl9 z901 dz901 wh901 y901 a901 b901 c901 e901 f901 g901 o901 p901 q901 r901 v9 tv9 h9 tk9 e9 F9 N9 g1 g2 g3; subst e9; (try dsimp only); (try k_fold)))) | ((with_reducible show wpAny _ _ (exec (Stmt.For (Expr.Name _ _) (Expr.Call _ _ _ _) _ _ _) _) _ _ _); (k_here; k_dflt ((rename Fr _ _ _ _ => fL'); (with_unfolding_all refine For_WF fL' ?_)))) | ((with_reducible show wpAny _ _ (PySem.call (Value.type "range") _ _) _ _ _); (k_here; k_dflt ((rename Fr _ _ _ _ => fR'); (rename News _ _ _ _ => nR'); (with_unfolding_all refine range1_rows fR' nR' ?_); intro _ _ _ _ _ _ _ _ _))) | ((with_reducible show wpAny _ _ (compareOp CmpOp.NotIn (Value.int _ _) (Value.ref _)) _ _ _); (k_here; k_dflt ((first | refine notin_two (by assumption) (.head _) (iff_t (by assumption)) ?_ | refine notin_two (by assumption) (.head _) (iff_f (by assumption)) ?_); (try dsimp only [Bool.not_true, Bool.not_false]); (rename News _ _ _ ((_, _) :: _) => nZ); (have nY := news_tail nZ); clear nZ))) | ((k_here; k_dflt ((with_reducible show wpAny _ _ (PySem.call (Value.ref 160) _ _) _ _ _); (refine' u32_c (by k_asm) (by k_asm) (by k_asm) (by k_asm) (by k_asm) (by first | exact rfl | assumption) (by ktr_rel) (by cb_room) (by first | assumption | exact rfl) (by cb_room) (by first | cb_room | (simp only [List.length_append, List.length_take, List.length_drop, List.length_cons, List.length_nil]; lia)) (by cb_room) (by ktr_room) (by ktr_units) ?_); intro v9 t9 t8 h9 tk9 e9 F9 N9; (first | (have e8 := Eq.trans e9 (by assumption); subst e8) | skip); (try dsimp only); (try k_fold)))) | ((k_here; k_dflt ((with_reducible show wpAny _ _ (PySem.call (Value.ref 89) _ _) _ _ _); (refine' number_c (by k_asm) (by k_asm) (by k_asm) (by k_asm) (by k_asm) (by first | exact rfl | assumption) (by first | assumption | exact rfl) (by cb_room) (by cb_room) (by first | cb_room | (simp only [List.length_append, List.length_take, List.length_drop, List.length_cons, List.length_nil]; lia)) (by cb_room) (by cb_room) (by ktr_room) (by ktr_units) ?_); intro v9 t9 h9 tk9 e9 F9 N9; (first | (have e8 := Eq.trans e9 (by assumption); subst e8) | skip); (try dsimp only); (try k_fold)))) | ((with_reducible show wpAny _ _ (leaving _ _) _ _ _); k_dflt (refine rf_first (by assumption) (by assumption) (news_tail (by assumption)) rfl rfl (News.get (by assumption) (.head _)) (by assumption) (by assumption) (g_none (by assumption)) (g_ne (by assumption)) (by assumption) ?_; intro h8 R8 sm8)) | ((k_here; k_dflt ((with_reducible show wpAny _ _ (PySem.call (Value.ref 73) [Value.str _ _, Value.int _ _] _) _ _ _); (refine' ff_c (by k_asm) (by k_asm) (by k_asm) (by k_asm) (by k_asm) (by first | exact rfl | assumption) (by ktr_room) (by ktr_room) ?_); intro e9 h9 tk9 o9 t9 F9 N9 ne9 hc9 hd9; (refine ⟨_, _, _, rfl, in73F (by k_asm) F9, (N9 _ (.head _)).1, hc9, hd9, ?_⟩)))) | ((with_reducible show wpAny _ _ (exec (Stmt.Raise (some _) none _) _) _ _ _); (k_here; k_dflt (refine Raise_F rfl ?_))) | (with_reducible ((k_here; (with_reducible show wpAny _ _ (subscriptTail _ (Expr.Slice _ _ none _) (Value.bytes _ _) (Value.ref _)) _ _ _); (with_reducible rename Fr _ _ _ _ => F'); (with_reducible rename News _ _ _ _ => N'); (first | (refine sliceIJ (s := ⟨_, _, _, _, _⟩) F' N' (by assumption) (by lia) (by lia) (by first | lia | (simp only [List.length_append, List.length_take, List.length_drop, List.length_cons, List.length_nil]; lia)) (by lia) ?_ (by with_unfolding_all rfl) (by intro _; with_unfolding_all rfl)) | (refine sliceI (s := ⟨_, _, _, _, _⟩) F' N' (by assumption) (by lia) (by first | lia | (simp only [List.length_append, List.length_take, List.length_drop, List.length_cons, List.length_nil]; lia)) (by lia) ?_ (by with_unfolding_all rfl) (by intro _; with_unfolding_all rfl)) | (refine sliceJ (s := ⟨_, _, _, _, _⟩) F' N' (by assumption) (by lia) (by first | lia | (simp only [List.length_append, List.length_take, List.length_drop, List.length_cons, List.length_nil]; lia)) (by lia) ?_ (by with_unfolding_all rfl) (by intro _; with_unfolding_all rfl))); intro bS' hS' tS' kS' fS' nS' eS'; clear F' N'))) | (k_unfold; (try dsimp only)) | (k_end; wrow_close) | walk1 | (dsimp only; walk1) | (leave1; walk_say "STEP leave1"; try dsimp only) | fail "no step"))
      (rename _ ∧ _ ∧ _ ∧ _ => lD)
      (rename (∀ (p : Addr × Obj), p ∈ _ → p.1 ≠ _) => gv)
      (rename News _ _ _ _ => nD)
      (rename Fr _ _ _ _ => fD)
      have gl := gv (_, PyProof.Rows.LCg.lst ys) (by repeat (first | exact .head _ | refine .tail _ ?_))
      have gI := gv (I, oI) (by repeat (first | exact .head _ | refine .tail _ ?_))
      have gx := gv (_, instObj 180 _) (by repeat (first | exact .head _ | refine .tail _ ?_))
      have gd := gv (_, dictOf [_, _] 2) (by repeat (first | exact .head _ | refine .tail _ ?_))
      refine append_N fD (pick1 nD) ?_ (by have := hIt.len; simp only [List.length_take] at this; rw [sizeLine_eq]; lia) ?_
      · exact off5 (Nat.ne_of_gt lD.2.2.2.2.2.2.2.1) (Ne.symm gl) (Nat.ne_of_lt l3) (Nat.ne_of_lt l4) (Ne.symm hx3) hoff
      intro h' F' N'
      refine wpAny_execs_nil ?_
      have e4 : (12 + 4 * (i : Int) + 4) = 12 + 4 * ((i + 1 : Nat) : Int) := by lia
      rw [e4] at N'
      refine StepW.mk F' (pick_back N') (off_back hx1 hx2 hx3 (Nat.ne_of_gt lD.2.2.2.2.2.2.2.2.1) (Ne.symm gI) (fun p hp => off₁ p (.tail _ (.tail _ (.tail _ hp))))) ⟨⟨hi, ⟨_, _, _, rcj_m rfl⟩, ys ++ [_], (_, _) :: (_, _) :: R, _, rfl, ?_, ?_⟩, trivial⟩
      · rw [hst]
        exact .snoc (hIt.mono fun p hp => .tail _ (.tail _ hp)) (.one (.head _) (.tail _ (.head _)) (by assumption))
      · exact own_cons ⟨Nat.ne_of_gt lD.2.2.2.2.2.2.2.1, Nat.ne_of_gt lD.2.2.2.2.2.1, Nat.ne_of_gt lD.2.2.2.2.2.2.1, trivial⟩ (own_cons ⟨Ne.symm gl, Ne.symm gx, Ne.symm gd, trivial⟩ hoff)
    | two h0 h1 hv hcnt bq1 lq1 lz1 be1 tg1 hw1 bz1 bq2 lq2 lz2 be2 tg2 hw2 bz2 h12 hpos =>
      (show wpAny _ _ (PySem.call (Value.ref 244) _ _) _ _ _)
      (refine' rr2_c ?kB ?kF ?kX ?kN ?kT ?kk ?s0 ?s1 ?s2 ?s3 ?s4 ?s5 ?s6 ?s7 ?s8 ?s9 ?s10 ?s11 ?s12 ?s13 ?s14 ?s15 ?s16 ?s17 ?s18 ?s19 ?kd ?ku ?_)
      (case kB => k_asm)
      (case kF => k_asm)
      (case kX => k_asm)
      (case kN => k_asm)
      (case kT => k_asm)
      (case kk => first | exact rfl | assumption)
      (case s0 => assumption)
      (case s1 => assumption)
      (case s2 => assumption)
      (case s3 => assumption)
      (case s4 => assumption)
      (case s5 => assumption)
      (case s10 => assumption)
      (case s16 => assumption)
      (case s6 => assumption)
      (case s7 => assumption)
      (case s12 => assumption)
      (case s13 => assumption)
      (case s8 => assumption)
      (case s9 => assumption)
      (case s11 => assumption)
      (case s14 => assumption)
      (case s15 => assumption)
      (case s17 => assumption)
      (case s18 => assumption)
      (case s19 => assumption)
      (case kd => ktr_room)
      (case ku => ktr_room)
      intro tp9 rl9 z901 dz901 wh901 y901 a901 b901 c901 e901 f901 g901 o901 p901 q901 r901 z902 dz902 wh902 y902 a902 b902 c902 e902 f902 g902 o902 p902 q902 r902 v9 tv9 h9 tk9 e9 F9 N9 g1 g2 g3
      subst e9
      (try dsimp only)
      (try k_fold)
      (repeat' (first | ((with_reducible show wpAny _ _ (leaving _ _) _ _ _); k_dflt (refine rf_next (by assumption) (by assumption) rfl (by assumption) (by assumption) ?_; intro h8 R8 sm8)) | ((k_here; k_dflt ((with_reducible show wpAny _ _ (PySem.call (Value.ref 249) _ _) _ _ _); (refine' to2_c (by k_asm) (by k_asm) (by k_asm) (by k_asm) (by k_asm) (by first | exact rfl | assumption) (by assumption) (by assumption) (by k_mem) (by k_mem) (by k_mem) (by assumption) (by assumption) (by assumption) (by k_mem) (by k_mem) (by assumption) (by assumption) (by assumption) (by ktr_room) (by ktr_room) ?_); intro v9 h9 tk9 k901 v901 u901 k902 v902 u902 F9 N9 g1 b901 b902; (try dsimp only); (try k_fold)))) | ((k_here; k_dflt ((with_reducible show wpAny _ _ (PySem.call (Value.ref 249) _ _) _ _ _); (refine' to1_c (by k_asm) (by k_asm) (by k_asm) (by k_asm) (by k_asm) (by first | exact rfl | assumption) (by assumption) (by assumption) (by k_mem) (by k_mem) (by k_mem) (by assumption) (by assumption) (by assumption) (by ktr_room) (by ktr_room) ?_); intro v9 h9 tk9 k901 v901 u901 F9 N9 g1 b901; (try dsimp only); (try k_fold)))) | ((k_here; k_dflt ((with_reducible show wpAny _ _ (PySem.call (Value.ref 244) _ _) _ _ _); (refine' rr2_c (by k_asm) (by k_asm) (by k_asm) (by k_asm) (by k_asm) (by first | exact rfl | assumption) (by assumption) (by assumption) (by assumption) (by assumption) (by assumption) (by assumption) (by assumption) (by assumption) (by assumption) (by assumption) (by assumption) (by assumption) (by assumption) (by assumption) (by assumption) (by assumption) (by assumption) (by assumption) (by assumption) (by assumption) (by ktr_room) (by ktr_room) ?_); intro tp9 rl9 z901 dz901 wh901 y901 a901 b901 c901 e901 f901 g901 o901 p901 q901 r901 z902 dz902 wh902 y902 a902 b902 c902 e902 f902 g902 o902 p902 q902 r902 v9 tv9 h9 tk9 e9 F9 N9 g1 g2 g3; subst e9; (try dsimp only); (try k_fold)))) | ((k_here; k_dflt ((with_reducible show wpAny _ _ (PySem.call (Value.ref 244) _ _) _ _ _); (refine' rr1_c (by k_asm) (by k_asm) (by k_asm) (by k_asm) (by k_asm) (by first | exact rfl | assumption) (by assumption) (by assumption) (by assumption) (by assumption) (by assumption) (by assumption) (by assumption) (by assumption) (by assumption) (by assumption) (by assumption) (by assumption) (by assumption) (by ktr_room) (by ktr_room) ?_); intro tp9 rl9 z901 dz901 wh901 y901 a901 b901 c901 e901 f901 g901 o901 p901 q901 r901 v9 tv9 h9 tk9 e9 F9 N9 g1 g2 g3; subst e9; (try dsimp only); (try k_fold)))) | ((with_reducible show wpAny _ _ (exec (Stmt.For (Expr.Name _ _) (Expr.Call _ _ _ _) _ _ _) _) _ _ _); (k_here; k_dflt ((rename Fr _ _ _ _ => fL'); (with_unfolding_all refine For_WF fL' ?_)))) | ((with_reducible show wpAny _ _ (PySem.call (Value.type "range") _ _) _ _ _); (k_here; k_dflt ((rename Fr _ _ _ _ => fR'); (rename News _ _ _ _ => nR'); (with_unfolding_all refine range1_rows fR' nR' ?_); intro _ _ _ _ _ _ _ _ _))) | ((with_reducible show wpAny _ _ (compareOp CmpOp.NotIn (Value.int _ _) (Value.ref _)) _ _ _); (k_here; k_dflt ((first | refine notin_two (by assumption) (.head _) (iff_t (by assumption)) ?_ | refine notin_two (by assumption) (.head _) (iff_f (by assumption)) ?_); (try dsimp only [Bool.not_true, Bool.not_false]); (rename News _ _ _ ((_, _) :: _) => nZ); (have nY := news_tail nZ); clear nZ))) | ((k_here; k_dflt ((with_reducible show wpAny _ _ (PySem.call (Value.ref 160) _ _) _ _ _); (refine' u32_c (by k_asm) (by k_asm) (by k_asm) (by k_asm) (by k_asm) (by first | exact rfl | assumption) (by ktr_rel) (by cb_room) (by first | assumption | exact rfl) (by cb_room) (by first | cb_room | (simp only [List.length_append, List.length_take, List.length_drop, List.length_cons, List.length_nil]; lia)) (by cb_room) (by ktr_room) (by ktr_units) ?_); intro v9 t9 t8 h9 tk9 e9 F9 N9; (first | (have e8 := Eq.trans e9 (by assumption); subst e8) | skip); (try dsimp only); (try k_fold)))) | ((k_here; k_dflt ((with_reducible show wpAny _ _ (PySem.call (Value.ref 89) _ _) _ _ _); (refine' number_c (by k_asm) (by k_asm) (by k_asm) (by k_asm) (by k_asm) (by first | exact rfl | assumption) (by first | assumption | exact rfl) (by cb_room) (by cb_room) (by first | cb_room | (simp only [List.length_append, List.length_take, List.length_drop, List.length_cons, List.length_nil]; lia)) (by cb_room) (by cb_room) (by ktr_room) (by ktr_units) ?_); intro v9 t9 h9 tk9 e9 F9 N9; (first | (have e8 := Eq.trans e9 (by assumption); subst e8) | skip); (try dsimp only); (try k_fold)))) | ((with_reducible show wpAny _ _ (leaving _ _) _ _ _); k_dflt (refine rf_first (by assumption) (by assumption) (news_tail (by assumption)) rfl rfl (News.get (by assumption) (.head _)) (by assumption) (by assumption) (g_none (by assumption)) (g_ne (by assumption)) (by assumption) ?_; intro h8 R8 sm8)) | ((k_here; k_dflt ((with_reducible show wpAny _ _ (PySem.call (Value.ref 73) [Value.str _ _, Value.int _ _] _) _ _ _); (refine' ff_c (by k_asm) (by k_asm) (by k_asm) (by k_asm) (by k_asm) (by first | exact rfl | assumption) (by ktr_room) (by ktr_room) ?_); intro e9 h9 tk9 o9 t9 F9 N9 ne9 hc9 hd9; (refine ⟨_, _, _, rfl, in73F (by k_asm) F9, (N9 _ (.head _)).1, hc9, hd9, ?_⟩)))) | ((with_reducible show wpAny _ _ (exec (Stmt.Raise (some _) none _) _) _ _ _); (k_here; k_dflt (refine Raise_F rfl ?_))) | (with_reducible ((k_here; (with_reducible show wpAny _ _ (subscriptTail _ (Expr.Slice _ _ none _) (Value.bytes _ _) (Value.ref _)) _ _ _); (with_reducible rename Fr _ _ _ _ => F'); (with_reducible rename News _ _ _ _ => N'); (first | (refine sliceIJ (s := ⟨_, _, _, _, _⟩) F' N' (by assumption) (by lia) (by lia) (by first | lia | (simp only [List.length_append, List.length_take, List.length_drop, List.length_cons, List.length_nil]; lia)) (by lia) ?_ (by with_unfolding_all rfl) (by intro _; with_unfolding_all rfl)) | (refine sliceI (s := ⟨_, _, _, _, _⟩) F' N' (by assumption) (by lia) (by first | lia | (simp only [List.length_append, List.length_take, List.length_drop, List.length_cons, List.length_nil]; lia)) (by lia) ?_ (by with_unfolding_all rfl) (by intro _; with_unfolding_all rfl)) | (refine sliceJ (s := ⟨_, _, _, _, _⟩) F' N' (by assumption) (by lia) (by first | lia | (simp only [List.length_append, List.length_take, List.length_drop, List.length_cons, List.length_nil]; lia)) (by lia) ?_ (by with_unfolding_all rfl) (by intro _; with_unfolding_all rfl))); intro bS' hS' tS' kS' fS' nS' eS'; clear F' N'))) | (k_unfold; (try dsimp only)) | (k_end; wrow_close) | walk1 | (dsimp only; walk1) | (leave1; walk_say "STEP leave1"; try dsimp only) | fail "no step"))
      (rename _ ∧ _ ∧ _ ∧ _ => lD)
      (rename (∀ (p : Addr × Obj), p ∈ _ → p.1 ≠ _) => gv)
      (rename News _ _ _ _ => nD)
      (rename Fr _ _ _ _ => fD)
      have gl := gv (_, PyProof.Rows.LCg.lst ys) (by repeat (first | exact .head _ | refine .tail _ ?_))
      have gI := gv (I, oI) (by repeat (first | exact .head _ | refine .tail _ ?_))
      have gx := gv (_, instObj 180 _) (by repeat (first | exact .head _ | refine .tail _ ?_))
      have gd := gv (_, dictOf [_, _] 2) (by repeat (first | exact .head _ | refine .tail _ ?_))
      refine append_N fD (pick2 nD) ?_ (by have := hIt.len; simp only [List.length_take] at this; rw [sizeLine_eq]; lia) ?_
      · exact off5 (Nat.ne_of_gt lD.2.2.2.2.2.2.2.2.2.1) (Ne.symm gl) (Nat.ne_of_lt l3) (Nat.ne_of_lt l4) (Ne.symm hx3) hoff
      intro h' F' N'
      refine wpAny_execs_nil ?_
      have e4 : (12 + 4 * (i : Int) + 4) = 12 + 4 * ((i + 1 : Nat) : Int) := by lia
      rw [e4] at N'
      refine StepW.mk F' (pick_back N') (off_back hx1 hx2 hx3 (Nat.ne_of_gt lD.2.2.2.2.2.2.2.2.2.2.1) (Ne.symm gI) (fun p hp => off₁ p (.tail _ (.tail _ (.tail _ hp))))) ⟨⟨hi, ⟨_, _, _, rcj_m rfl⟩, ys ++ [_], (_, _) :: (_, _) :: R, _, rfl, ?_, ?_⟩, trivial⟩
      · rw [hst]
        exact .snoc (hIt.mono fun p hp => .tail _ (.tail _ hp)) (.two (.head _) (.tail _ (.head _)) (by assumption) (by assumption))
      · exact own_cons ⟨Nat.ne_of_gt lD.2.2.2.2.2.2.2.2.2.1, Nat.ne_of_gt lD.2.2.2.2.2.2.2.1, Nat.ne_of_gt lD.2.2.2.2.2.2.2.2.1, trivial⟩ (own_cons ⟨Ne.symm gl, Ne.symm gx, Ne.symm gd, trivial⟩ hoff)
  case fin =>
    intro h' tk' m' news' F₁ N₁ hJ
    obtain ⟨hle, ⟨a, b, c, rfl⟩, ys, R, t8, rfl, hIt, hoff⟩ := hJ
    have hn0 : n9 = fs.length := by lia
    subst hn0
    rw [List.take_length] at hIt
    dsimp only [envOf] at F₁ N₁
    clear nR fR
    dsimp only
    (repeat' (first | ((with_reducible show wpAny _ _ (leaving _ _) _ _ _); k_dflt (refine rf_next (by assumption) (by assumption) rfl (by assumption) (by assumption) ?_; intro h8 R8 sm8)) | ((k_here; k_dflt ((with_reducible show wpAny _ _ (PySem.call (Value.ref 249) _ _) _ _ _); (refine' to2_c (by k_asm) (by k_asm) (by k_asm) (by k_asm) (by k_asm) (by first | exact rfl | assumption) (by assumption) (by assumption) (by k_mem) (by k_mem) (by k_mem) (by assumption) (by assumption) (by assumption) (by k_mem) (by k_mem) (by assumption) (by assumption) (by assumption) (by ktr_room) (by ktr_room) ?_); intro v9 h9 tk9 k901 v901 u901 k902 v902 u902 F9 N9 g1 b901 b902; (try dsimp only); (try k_fold)))) | ((k_here; k_dflt ((with_reducible show wpAny _ _ (PySem.call (Value.ref 249) _ _) _ _ _); (refine' to1_c (by k_asm) (by k_asm) (by k_asm) (by k_asm) (by k_asm) (by first | exact rfl | assumption) (by assumption) (by assumption) (by k_mem) (by k_mem) (by k_mem) (by assumption) (by assumption) (by assumption) (by ktr_room) (by ktr_room) ?_); intro v9 h9 tk9 k901 v901 u901 F9 N9 g1 b901; (try dsimp only); (try k_fold)))) | ((k_here; k_dflt ((with_reducible show wpAny _ _ (PySem.call (Value.ref 244) _ _) _ _ _); (refine' rr2_c (by k_asm) (by k_asm) (by k_asm) (by k_asm) (by k_asm) (by first | exact rfl | assumption) (by assumption) (by assumption) (by assumption) (by assumption) (by assumption) (by assumption) (by assumption) (by assumption) (by assumption) (by assumption) (by assumption) (by assumption) (by assumption) (by assumption) (by assumption) (by assumption) (by assumption) (by assumption) (by assumption) (by assumption) (by ktr_room) (by ktr_room) ?_); intro tp9 rl9 z901 dz901 wh901 y901 a901 b901 c901 e901 f901 g901 o901 p901 q901 r901 z902 dz902 wh902 y902 a902 b902 c902 e902 f902 g902 o902 p902 q902 r902 v9 tv9 h9 tk9 e9 F9 N9 g1 g2 g3; subst e9; (try dsimp only); (try k_fold)))) | ((k_here; k_dflt ((with_reducible show wpAny _ _ (PySem.call (Value.ref 244) _ _) _ _ _); (refine' rr1_c (by k_asm) (by k_asm) (by k_asm) (by k_asm) (by k_asm) (by first | exact rfl | assumption) (by assumption) (by assumption) (by assumption) (by assumption) (by assumption) (by assumption) (by assumption) (by assumption) (by assumption) (by assumption) (by assumption) (by assumption) (by assumption) (by ktr_room) (by ktr_room) ?_); intro tp9 rl9 z901 dz901 wh901 y901 a901 b901 c901 e901 f901 g901 o901 p901 q901 r901 v9 tv9 h9 tk9 e9 F9 N9 g1 g2 g3; subst e9; (try dsimp only); (try k_fold)))) | ((with_reducible show wpAny _ _ (exec (Stmt.For (Expr.Name _ _) (Expr.Call _ _ _ _) _ _ _) _) _ _ _); (k_here; k_dflt ((rename Fr _ _ _ _ => fL'); (with_unfolding_all refine For_WF fL' ?_)))) | ((with_reducible show wpAny _ _ (PySem.call (Value.type "range") _ _) _ _ _); (k_here; k_dflt ((rename Fr _ _ _ _ => fR'); (rename News _ _ _ _ => nR'); (with_unfolding_all refine range1_rows fR' nR' ?_); intro _ _ _ _ _ _ _ _ _))) | ((with_reducible show wpAny _ _ (compareOp CmpOp.NotIn (Value.int _ _) (Value.ref _)) _ _ _); (k_here; k_dflt ((first | refine notin_two (by assumption) (.head _) (iff_t (by assumption)) ?_ | refine notin_two (by assumption) (.head _) (iff_f (by assumption)) ?_); (try dsimp only [Bool.not_true, Bool.not_false]); (rename News _ _ _ ((_, _) :: _) => nZ); (have nY := news_tail nZ); clear nZ))) | ((k_here; k_dflt ((with_reducible show wpAny _ _ (PySem.call (Value.ref 160) _ _) _ _ _); (refine' u32_c (by k_asm) (by k_asm) (by k_asm) (by k_asm) (by k_asm) (by first | exact rfl | assumption) (by ktr_rel) (by cb_room) (by first | assumption | exact rfl) (by cb_room) (by first | cb_room | (simp only [List.length_append, List.length_take, List.length_drop, List.length_cons, List.length_nil]; lia)) (by cb_room) (by ktr_room) (by ktr_units) ?_); intro v9 t9 t8 h9 tk9 e9 F9 N9; (first | (have e8 := Eq.trans e9 (by assumption); subst e8) | skip); (try dsimp only); (try k_fold)))) | ((k_here; k_dflt ((with_reducible show wpAny _ _ (PySem.call (Value.ref 89) _ _) _ _ _); (refine' number_c (by k_asm) (by k_asm) (by k_asm) (by k_asm) (by k_asm) (by first | exact rfl | assumption) (by first | assumption | exact rfl) (by cb_room) (by cb_room) (by first | cb_room | (simp only [List.length_append, List.length_take, List.length_drop, List.length_cons, List.length_nil]; lia)) (by cb_room) (by cb_room) (by ktr_room) (by ktr_units) ?_); intro v9 t9 h9 tk9 e9 F9 N9; (first | (have e8 := Eq.trans e9 (by assumption); subst e8) | skip); (try dsimp only); (try k_fold)))) | ((with_reducible show wpAny _ _ (leaving _ _) _ _ _); k_dflt (refine rf_first (by assumption) (by assumption) (news_tail (by assumption)) rfl rfl (News.get (by assumption) (.head _)) (by assumption) (by assumption) (g_none (by assumption)) (g_ne (by assumption)) (by assumption) ?_; intro h8 R8 sm8)) | ((k_here; k_dflt ((with_reducible show wpAny _ _ (PySem.call (Value.ref 73) [Value.str _ _, Value.int _ _] _) _ _ _); (refine' ff_c (by k_asm) (by k_asm) (by k_asm) (by k_asm) (by k_asm) (by first | exact rfl | assumption) (by ktr_room) (by ktr_room) ?_); intro e9 h9 tk9 o9 t9 F9 N9 ne9 hc9 hd9; (refine ⟨_, _, _, rfl, in73F (by k_asm) F9, (N9 _ (.head _)).1, hc9, hd9, ?_⟩)))) | ((with_reducible show wpAny _ _ (exec (Stmt.Raise (some _) none _) _) _ _ _); (k_here; k_dflt (refine Raise_F rfl ?_))) | (with_reducible ((k_here; (with_reducible show wpAny _ _ (subscriptTail _ (Expr.Slice _ _ none _) (Value.bytes _ _) (Value.ref _)) _ _ _); (with_reducible rename Fr _ _ _ _ => F'); (with_reducible rename News _ _ _ _ => N'); (first | (refine sliceIJ (s := ⟨_, _, _, _, _⟩) F' N' (by assumption) (by lia) (by lia) (by first | lia | (simp only [List.length_append, List.length_take, List.length_drop, List.length_cons, List.length_nil]; lia)) (by lia) ?_ (by with_unfolding_all rfl) (by intro _; with_unfolding_all rfl)) | (refine sliceI (s := ⟨_, _, _, _, _⟩) F' N' (by assumption) (by lia) (by first | lia | (simp only [List.length_append, List.length_take, List.length_drop, List.length_cons, List.length_nil]; lia)) (by lia) ?_ (by with_unfolding_all rfl) (by intro _; with_unfolding_all rfl)) | (refine sliceJ (s := ⟨_, _, _, _, _⟩) F' N' (by assumption) (by lia) (by first | lia | (simp only [List.length_append, List.length_take, List.length_drop, List.length_cons, List.length_nil]; lia)) (by lia) ?_ (by with_unfolding_all rfl) (by intro _; with_unfolding_all rfl))); intro bS' hS' tS' kS' fS' nS' eS'; clear F' N'))) | (k_unfold; (try dsimp only)) | (k_end; wrow_close) | walk1 | (dsimp only; walk1) | (leave1; walk_say "STEP leave1"; try dsimp only) | fail "no step"))
    exact hret (by lia) _ ys R _ _ (by assumption) (pick_fl (by assumption)) hIt (own_sub hoff fun b hb => by rw [List.mem_singleton.mp hb]; exact .head _)
end
end
section
theorem part13 : True := by
  w_top off
  trivial
inductive RcBad0 (ks : List Int) : Prop
  | short (h : ks.length < 12) : RcBad0 ks
  | magic (v : Int) (h12 : 12 ≤ ks.length) (h : beL ((ks.drop (0 : Int).toNat).take 4) = v) (hv : v ≠ 1953784678) : RcBad0 ks
  | vers (v : Int) (h12 : 12 ≤ ks.length) (hmag : beL ((ks.drop (0 : Int).toNat).take 4) = 1953784678) (hver : beL ((ks.drop (4 : Int).toNat).take 4) = v) (hvv : ¬(v = 65536 ∨ v = 131072)) : RcBad0 ks
  | none (v c : Int) (h12 : 12 ≤ ks.length) (hmag : beL ((ks.drop (0 : Int).toNat).take 4) = 1953784678) (hver : beL ((ks.drop (4 : Int).toNat).take 4) = v) (hvv : v = 65536 ∨ v = 131072) (hcnt : beL ((ks.drop (4 + 4 : Int).toNat).take 4) = c) (hc : c ≤ 0) : RcBad0 ks
  | many (v c : Int) (h12 : 12 ≤ ks.length) (hmag : beL ((ks.drop (0 : Int).toNat).take 4) = 1953784678) (hver : beL ((ks.drop (4 : Int).toNat).take 4) = v) (hvv : v = 65536 ∨ v = 131072) (hcnt : beL ((ks.drop (4 + 4 : Int).toNat).take 4) = c) (hc : 64 < c) : RcBad0 ks
  | ends (v c : Int) (h12 : 12 ≤ ks.length) (hmag : beL ((ks.drop (0 : Int).toNat).take 4) = 1953784678) (hver : beL ((ks.drop (4 : Int).toNat).take 4) = v) (hvv : v = 65536 ∨ v = 131072) (hcnt : beL ((ks.drop (4 + 4 : Int).toNat).take 4) = c) (hc : 0 < c) (hc2 : c ≤ 64) (hc3 : (ks.length : Int) < 12 + 4 * c) : RcBad0 ks
theorem RcBad0.split {ks : List Int} (h : RcBad0 ks) : ks.length < 12 ∨ (∃ v, 12 ≤ ks.length ∧ beL ((ks.drop (0 : Int).toNat).take 4) = v ∧ v ≠ 1953784678) ∨
    ∃ v, 12 ≤ ks.length ∧ beL ((ks.drop (0 : Int).toNat).take 4) = 1953784678 ∧ beL ((ks.drop (4 : Int).toNat).take 4) = v ∧ (¬(v = 65536 ∨ v = 131072) ∨
      (v = 65536 ∨ v = 131072) ∧ ∃ c, beL ((ks.drop (4 + 4 : Int).toNat).take 4) = c ∧ (c ≤ 0 ∨ 64 < c ∨ 0 < c ∧ c ≤ 64 ∧ (ks.length : Int) < 12 + 4 * c)) := by
  cases h with
  | short h => exact .inl h
  | magic v a b c => exact .inr (.inl ⟨v, a, b, c⟩)
  | vers v a b c d => exact .inr (.inr ⟨v, a, b, c, .inl d⟩)
  | none v c a b e f g h => exact .inr (.inr ⟨v, a, b, e, .inr ⟨f, c, g, .inl h⟩⟩)
  | many v c a b e f g h => exact .inr (.inr ⟨v, a, b, e, .inr ⟨f, c, g, .inr (.inl h)⟩⟩)
  | ends v c a b e f g h i j => exact .inr (.inr ⟨v, a, b, e, .inr ⟨f, c, g, .inr (.inr ⟨h, i, j⟩)⟩⟩)
theorem sub_any {l news : List (Addr × Obj)} : ∀ p ∈ news, p ∈ l ++ news := fun p hp => List.mem_append.mpr (.inr hp)
section
variable {w : World} {mean : ExcName → Option Value} {mg mb : Str → Option Value} {dp un : Nat} {gd : Option (List Code)} {cn : Str} {cs : Scope} {a : Addr} {ccd : Value} {cl : List (Str × Addr)} {outer : List Env} {A₀ : Around} {base h₀ : Heap} {L : Addr} {m : Str → Option Value} {s : Shared} {Q E : Value → Shared → Prop}
set_option maxRecDepth 100000 in
set_option maxHeartbeats 8000000 in
theorem rce_c {d : Array UInt8} {ks : List Int} {t1 : Tok} {news : List (Addr × Obj)}
  (B : Below A₀ base outer h₀) (F : Fr h₀ L s.heap m) (X : (Mine.hd.heap_39 w.params).In h₀) (N : News h₀ L s.heap (news)) (T : Top Mine.hd.view_39 (looseW Mine.hd.view_39 [Str.ofString "ShapeError", Str.ofString "VERSIONS"]) mean mg mb h₀) (hk : cs.kind = .function)
  (hks : KBw.bInts d = ks) (hs : ks.length ≤ 1048576) (hb : RcBad0 ks)
  (hd : dp + 60 ≤ 450) (hu : un + 480 ≤ 1800)
  (hrai : ∀ e h' tk' G, Fr h₀ L G m → RaisedN base (envX cn cs L a ccd cl :: outer) e (.ref 73) (news) h' → G.UpToSlots h' → E (.ref e) { s with heap := h', toks := tk' }) :
  wpAny (model PySem.Challenge.rw_pb0178_01.row.prog w) (ktrTop dp un gd cn cs L a ccd cl outer) (call (.ref 263) [.bytes d t1]) Q E s := by
  refine wpAny_call ?_
  k_dflt cell_enter
  rcases hb.split with hb | ⟨v, h12, h, hv⟩ | ⟨v, h12, hmag, hver, hb⟩
  · (repeat' (first | ((with_reducible show wpAny _ _ (compareOp CmpOp.NotIn (Value.int _ _) (Value.ref _)) _ _ _); (k_here; k_dflt ((first | refine notin_two (by assumption) (.head _) (iff_t (by assumption)) ?_ | refine notin_two (by assumption) (.head _) (iff_f (by assumption)) ?_); (try dsimp only [Bool.not_true, Bool.not_false]); (rename News _ _ _ ((_, _) :: _) => nZ); (have nY := news_tail nZ); clear nZ))) | ((k_here; k_dflt ((with_reducible show wpAny _ _ (PySem.call (Value.ref 160) _ _) _ _ _); (refine' u32_c (by k_asm) (by k_asm) (by k_asm) (by k_asm) (by k_asm) (by first | exact rfl | assumption) (by ktr_rel) (by cb_room) (by first | assumption | exact rfl) (by cb_room) (by first | cb_room | (simp only [List.length_append, List.length_take, List.length_drop, List.length_cons, List.length_nil]; lia)) (by cb_room) (by ktr_room) (by ktr_units) ?_); intro v9 t9 t8 h9 tk9 e9 F9 N9; (first | (have e8 := Eq.trans e9 (by assumption); subst e8) | skip); (try dsimp only); (try k_fold)))) | ((k_here; k_dflt ((with_reducible show wpAny _ _ (PySem.call (Value.ref 89) _ _) _ _ _); (refine' number_c (by k_asm) (by k_asm) (by k_asm) (by k_asm) (by k_asm) (by first | exact rfl | assumption) (by first | assumption | exact rfl) (by cb_room) (by cb_room) (by first | cb_room | (simp only [List.length_append, List.length_take, List.length_drop, List.length_cons, List.length_nil]; lia)) (by cb_room) (by cb_room) (by ktr_room) (by ktr_units) ?_); intro v9 t9 h9 tk9 e9 F9 N9; (first | (have e8 := Eq.trans e9 (by assumption); subst e8) | skip); (try dsimp only); (try k_fold)))) | ((with_reducible show wpAny _ _ (leaving _ _) _ _ _); k_dflt (refine rf_first (by assumption) (by assumption) (news_tail (by assumption)) rfl rfl (News.get (by assumption) (.head _)) (by assumption) (by assumption) (g_none (by assumption)) (g_ne (by assumption)) (by assumption) ?_; intro h8 R8 sm8)) | ((k_here; k_dflt ((with_reducible show wpAny _ _ (PySem.call (Value.ref 73) [Value.str _ _, Value.int _ _] _) _ _ _); (refine' ff_c (by k_asm) (by k_asm) (by k_asm) (by k_asm) (by k_asm) (by first | exact rfl | assumption) (by ktr_room) (by ktr_room) ?_); intro e9 h9 tk9 o9 t9 F9 N9 ne9 hc9 hd9; (refine ⟨_, _, _, rfl, in73F (by k_asm) F9, (N9 _ (.head _)).1, hc9, hd9, ?_⟩)))) | ((with_reducible show wpAny _ _ (exec (Stmt.Raise (some _) none _) _) _ _ _); (k_here; k_dflt (refine Raise_F rfl ?_))) | (with_reducible ((k_here; (with_reducible show wpAny _ _ (subscriptTail _ (Expr.Slice _ _ none _) (Value.bytes _ _) (Value.ref _)) _ _ _); (with_reducible rename Fr _ _ _ _ => F'); (with_reducible rename News _ _ _ _ => N'); (first | (refine sliceIJ (s := ⟨_, _, _, _, _⟩) F' N' (by assumption) (by lia) (by lia) (by first | lia | (simp only [List.length_append, List.length_take, List.length_drop, List.length_cons, List.length_nil]; lia)) (by lia) ?_ (by with_unfolding_all rfl) (by intro _; with_unfolding_all rfl)) | (refine sliceI (s := ⟨_, _, _, _, _⟩) F' N' (by assumption) (by lia) (by first | lia | (simp only [List.length_append, List.length_take, List.length_drop, List.length_cons, List.length_nil]; lia)) (by lia) ?_ (by with_unfolding_all rfl) (by intro _; with_unfolding_all rfl)) | (refine sliceJ (s := ⟨_, _, _, _, _⟩) F' N' (by assumption) (by lia) (by first | lia | (simp only [List.length_append, List.length_take, List.length_drop, List.length_cons, List.length_nil]; lia)) (by lia) ?_ (by with_unfolding_all rfl) (by intro _; with_unfolding_all rfl))); intro bS' hS' tS' kS' fS' nS' eS'; clear F' N'))) | (k_unfold; (try dsimp only)) | (k_end; wrow_close) | walk1 | (dsimp only; walk1) | (leave1; walk_say "STEP leave1"; try dsimp only) | fail "no step"))
    all_goals exact hrai _ _ _ _ (by assumption) (RaisedN.sub (by assumption) (by intro p hp; repeat (first | exact hp | refine .tail _ ?_))) (by assumption)
  · (repeat' (first | ((with_reducible show wpAny _ _ (compareOp CmpOp.NotIn (Value.int _ _) (Value.ref _)) _ _ _); (k_here; k_dflt ((first | refine notin_two (by assumption) (.head _) (iff_t (by assumption)) ?_ | refine notin_two (by assumption) (.head _) (iff_f (by assumption)) ?_); (try dsimp only [Bool.not_true, Bool.not_false]); (rename News _ _ _ ((_, _) :: _) => nZ); (have nY := news_tail nZ); clear nZ))) | ((k_here; k_dflt ((with_reducible show wpAny _ _ (PySem.call (Value.ref 160) _ _) _ _ _); (refine' u32_c (by k_asm) (by k_asm) (by k_asm) (by k_asm) (by k_asm) (by first | exact rfl | assumption) (by ktr_rel) (by cb_room) (by first | assumption | exact rfl) (by cb_room) (by first | cb_room | (simp only [List.length_append, List.length_take, List.length_drop, List.length_cons, List.length_nil]; lia)) (by cb_room) (by ktr_room) (by ktr_units) ?_); intro v9 t9 t8 h9 tk9 e9 F9 N9; (first | (have e8 := Eq.trans e9 (by assumption); subst e8) | skip); (try dsimp only); (try k_fold)))) | ((k_here; k_dflt ((with_reducible show wpAny _ _ (PySem.call (Value.ref 89) _ _) _ _ _); (refine' number_c (by k_asm) (by k_asm) (by k_asm) (by k_asm) (by k_asm) (by first | exact rfl | assumption) (by first | assumption | exact rfl) (by cb_room) (by cb_room) (by first | cb_room | (simp only [List.length_append, List.length_take, List.length_drop, List.length_cons, List.length_nil]; lia)) (by cb_room) (by cb_room) (by ktr_room) (by ktr_units) ?_); intro v9 t9 h9 tk9 e9 F9 N9; (first | (have e8 := Eq.trans e9 (by assumption); subst e8) | skip); (try dsimp only); (try k_fold)))) | ((with_reducible show wpAny _ _ (leaving _ _) _ _ _); k_dflt (refine rf_first (by assumption) (by assumption) (news_tail (by assumption)) rfl rfl (News.get (by assumption) (.head _)) (by assumption) (by assumption) (g_none (by assumption)) (g_ne (by assumption)) (by assumption) ?_; intro h8 R8 sm8)) | ((k_here; k_dflt ((with_reducible show wpAny _ _ (PySem.call (Value.ref 73) [Value.str _ _, Value.int _ _] _) _ _ _); (refine' ff_c (by k_asm) (by k_asm) (by k_asm) (by k_asm) (by k_asm) (by first | exact rfl | assumption) (by ktr_room) (by ktr_room) ?_); intro e9 h9 tk9 o9 t9 F9 N9 ne9 hc9 hd9; (refine ⟨_, _, _, rfl, in73F (by k_asm) F9, (N9 _ (.head _)).1, hc9, hd9, ?_⟩)))) | ((with_reducible show wpAny _ _ (exec (Stmt.Raise (some _) none _) _) _ _ _); (k_here; k_dflt (refine Raise_F rfl ?_))) | (with_reducible ((k_here; (with_reducible show wpAny _ _ (subscriptTail _ (Expr.Slice _ _ none _) (Value.bytes _ _) (Value.ref _)) _ _ _); (with_reducible rename Fr _ _ _ _ => F'); (with_reducible rename News _ _ _ _ => N'); (first | (refine sliceIJ (s := ⟨_, _, _, _, _⟩) F' N' (by assumption) (by lia) (by lia) (by first | lia | (simp only [List.length_append, List.length_take, List.length_drop, List.length_cons, List.length_nil]; lia)) (by lia) ?_ (by with_unfolding_all rfl) (by intro _; with_unfolding_all rfl)) | (refine sliceI (s := ⟨_, _, _, _, _⟩) F' N' (by assumption) (by lia) (by first | lia | (simp only [List.length_append, List.length_take, List.length_drop, List.length_cons, List.length_nil]; lia)) (by lia) ?_ (by with_unfolding_all rfl) (by intro _; with_unfolding_all rfl)) | (refine sliceJ (s := ⟨_, _, _, _, _⟩) F' N' (by assumption) (by lia) (by first | lia | (simp only [List.length_append, List.length_take, List.length_drop, List.length_cons, List.length_nil]; lia)) (by lia) ?_ (by with_unfolding_all rfl) (by intro _; with_unfolding_all rfl))); intro bS' hS' tS' kS' fS' nS' eS'; clear F' N'))) | (k_unfold; (try dsimp only)) | (k_end; wrow_close) | walk1 | (dsimp only; walk1) | (leave1; walk_say "STEP leave1"; try dsimp only) | fail "no step"))
    all_goals exact hrai _ _ _ _ (by assumption) (RaisedN.sub (by assumption) (by intro p hp; repeat (first | exact hp | refine .tail _ ?_))) (by assumption)
  · repeat' (first | ((fail_if_success (with_reducible show wpAny _ _ (compareOp CmpOp.NotIn _ _) _ _ _)); (first | ((with_reducible show wpAny _ _ (compareOp CmpOp.NotIn (Value.int _ _) (Value.ref _)) _ _ _); (k_here; k_dflt ((first | refine notin_two (by assumption) (.head _) (iff_t (by assumption)) ?_ | refine notin_two (by assumption) (.head _) (iff_f (by assumption)) ?_); (try dsimp only [Bool.not_true, Bool.not_false]); (rename News _ _ _ ((_, _) :: _) => nZ); (have nY := news_tail nZ); clear nZ))) | ((k_here; k_dflt ((with_reducible show wpAny _ _ (PySem.call (Value.ref 160) _ _) _ _ _); (refine' u32_c (by k_asm) (by k_asm) (by k_asm) (by k_asm) (by k_asm) (by first | exact rfl | assumption) (by ktr_rel) (by cb_room) (by first | assumption | exact rfl) (by cb_room) (by first | cb_room | (simp only [List.length_append, List.length_take, List.length_drop, List.length_cons, List.length_nil]; lia)) (by cb_room) (by ktr_room) (by ktr_units) ?_); intro v9 t9 t8 h9 tk9 e9 F9 N9; (first | (have e8 := Eq.trans e9 (by assumption); subst e8) | skip); (try dsimp only); (try k_fold)))) | ((k_here; k_dflt ((with_reducible show wpAny _ _ (PySem.call (Value.ref 89) _ _) _ _ _); (refine' number_c (by k_asm) (by k_asm) (by k_asm) (by k_asm) (by k_asm) (by first | exact rfl | assumption) (by first | assumption | exact rfl) (by cb_room) (by cb_room) (by first | cb_room | (simp only [List.length_append, List.length_take, List.length_drop, List.length_cons, List.length_nil]; lia)) (by cb_room) (by cb_room) (by ktr_room) (by ktr_units) ?_); intro v9 t9 h9 tk9 e9 F9 N9; (first | (have e8 := Eq.trans e9 (by assumption); subst e8) | skip); (try dsimp only); (try k_fold)))) | ((with_reducible show wpAny _ _ (leaving _ _) _ _ _); k_dflt (refine rf_first (by assumption) (by assumption) (news_tail (by assumption)) rfl rfl (News.get (by assumption) (.head _)) (by assumption) (by assumption) (g_none (by assumption)) (g_ne (by assumption)) (by assumption) ?_; intro h8 R8 sm8)) | ((k_here; k_dflt ((with_reducible show wpAny _ _ (PySem.call (Value.ref 73) [Value.str _ _, Value.int _ _] _) _ _ _); (refine' ff_c (by k_asm) (by k_asm) (by k_asm) (by k_asm) (by k_asm) (by first | exact rfl | assumption) (by ktr_room) (by ktr_room) ?_); intro e9 h9 tk9 o9 t9 F9 N9 ne9 hc9 hd9; (refine ⟨_, _, _, rfl, in73F (by k_asm) F9, (N9 _ (.head _)).1, hc9, hd9, ?_⟩)))) | ((with_reducible show wpAny _ _ (exec (Stmt.Raise (some _) none _) _) _ _ _); (k_here; k_dflt (refine Raise_F rfl ?_))) | (with_reducible ((k_here; (with_reducible show wpAny _ _ (subscriptTail _ (Expr.Slice _ _ none _) (Value.bytes _ _) (Value.ref _)) _ _ _); (with_reducible rename Fr _ _ _ _ => F'); (with_reducible rename News _ _ _ _ => N'); (first | (refine sliceIJ (s := ⟨_, _, _, _, _⟩) F' N' (by assumption) (by lia) (by lia) (by first | lia | (simp only [List.length_append, List.length_take, List.length_drop, List.length_cons, List.length_nil]; lia)) (by lia) ?_ (by with_unfolding_all rfl) (by intro _; with_unfolding_all rfl)) | (refine sliceI (s := ⟨_, _, _, _, _⟩) F' N' (by assumption) (by lia) (by first | lia | (simp only [List.length_append, List.length_take, List.length_drop, List.length_cons, List.length_nil]; lia)) (by lia) ?_ (by with_unfolding_all rfl) (by intro _; with_unfolding_all rfl)) | (refine sliceJ (s := ⟨_, _, _, _, _⟩) F' N' (by assumption) (by lia) (by first | lia | (simp only [List.length_append, List.length_take, List.length_drop, List.length_cons, List.length_nil]; lia)) (by lia) ?_ (by with_unfolding_all rfl) (by intro _; with_unfolding_all rfl))); intro bS' hS' tS' kS' fS' nS' eS'; clear F' N'))) | (k_unfold; (try dsimp only)) | (k_end; wrow_close) | walk1 | (dsimp only; walk1))))
    rcases hb with hvv | ⟨hvv, c, hcnt, hb⟩
    · (repeat' (first | ((with_reducible show wpAny _ _ (compareOp CmpOp.NotIn (Value.int _ _) (Value.ref _)) _ _ _); (k_here; k_dflt ((first | refine notin_two (by assumption) (.head _) (iff_t (by assumption)) ?_ | refine notin_two (by assumption) (.head _) (iff_f (by assumption)) ?_); (try dsimp only [Bool.not_true, Bool.not_false]); (rename News _ _ _ ((_, _) :: _) => nZ); (have nY := news_tail nZ); clear nZ))) | ((k_here; k_dflt ((with_reducible show wpAny _ _ (PySem.call (Value.ref 160) _ _) _ _ _); (refine' u32_c (by k_asm) (by k_asm) (by k_asm) (by k_asm) (by k_asm) (by first | exact rfl | assumption) (by ktr_rel) (by cb_room) (by first | assumption | exact rfl) (by cb_room) (by first | cb_room | (simp only [List.length_append, List.length_take, List.length_drop, List.length_cons, List.length_nil]; lia)) (by cb_room) (by ktr_room) (by ktr_units) ?_); intro v9 t9 t8 h9 tk9 e9 F9 N9; (first | (have e8 := Eq.trans e9 (by assumption); subst e8) | skip); (try dsimp only); (try k_fold)))) | ((k_here; k_dflt ((with_reducible show wpAny _ _ (PySem.call (Value.ref 89) _ _) _ _ _); (refine' number_c (by k_asm) (by k_asm) (by k_asm) (by k_asm) (by k_asm) (by first | exact rfl | assumption) (by first | assumption | exact rfl) (by cb_room) (by cb_room) (by first | cb_room | (simp only [List.length_append, List.length_take, List.length_drop, List.length_cons, List.length_nil]; lia)) (by cb_room) (by cb_room) (by ktr_room) (by ktr_units) ?_); intro v9 t9 h9 tk9 e9 F9 N9; (first | (have e8 := Eq.trans e9 (by assumption); subst e8) | skip); (try dsimp only); (try k_fold)))) | ((with_reducible show wpAny _ _ (leaving _ _) _ _ _); k_dflt (refine rf_first (by assumption) (by assumption) (news_tail (by assumption)) rfl rfl (News.get (by assumption) (.head _)) (by assumption) (by assumption) (g_none (by assumption)) (g_ne (by assumption)) (by assumption) ?_; intro h8 R8 sm8)) | ((k_here; k_dflt ((with_reducible show wpAny _ _ (PySem.call (Value.ref 73) [Value.str _ _, Value.int _ _] _) _ _ _); (refine' ff_c (by k_asm) (by k_asm) (by k_asm) (by k_asm) (by k_asm) (by first | exact rfl | assumption) (by ktr_room) (by ktr_room) ?_); intro e9 h9 tk9 o9 t9 F9 N9 ne9 hc9 hd9; (refine ⟨_, _, _, rfl, in73F (by k_asm) F9, (N9 _ (.head _)).1, hc9, hd9, ?_⟩)))) | ((with_reducible show wpAny _ _ (exec (Stmt.Raise (some _) none _) _) _ _ _); (k_here; k_dflt (refine Raise_F rfl ?_))) | (with_reducible ((k_here; (with_reducible show wpAny _ _ (subscriptTail _ (Expr.Slice _ _ none _) (Value.bytes _ _) (Value.ref _)) _ _ _); (with_reducible rename Fr _ _ _ _ => F'); (with_reducible rename News _ _ _ _ => N'); (first | (refine sliceIJ (s := ⟨_, _, _, _, _⟩) F' N' (by assumption) (by lia) (by lia) (by first | lia | (simp only [List.length_append, List.length_take, List.length_drop, List.length_cons, List.length_nil]; lia)) (by lia) ?_ (by with_unfolding_all rfl) (by intro _; with_unfolding_all rfl)) | (refine sliceI (s := ⟨_, _, _, _, _⟩) F' N' (by assumption) (by lia) (by first | lia | (simp only [List.length_append, List.length_take, List.length_drop, List.length_cons, List.length_nil]; lia)) (by lia) ?_ (by with_unfolding_all rfl) (by intro _; with_unfolding_all rfl)) | (refine sliceJ (s := ⟨_, _, _, _, _⟩) F' N' (by assumption) (by lia) (by first | lia | (simp only [List.length_append, List.length_take, List.length_drop, List.length_cons, List.length_nil]; lia)) (by lia) ?_ (by with_unfolding_all rfl) (by intro _; with_unfolding_all rfl))); intro bS' hS' tS' kS' fS' nS' eS'; clear F' N'))) | (k_unfold; (try dsimp only)) | (k_end; wrow_close) | walk1 | (dsimp only; walk1) | (leave1; walk_say "STEP leave1"; try dsimp only) | fail "no step"))
      all_goals exact hrai _ _ _ _ (by assumption) (RaisedN.sub (by assumption) (by intro p hp; repeat (first | exact hp | refine .tail _ ?_))) (by assumption)
    · repeat' (first | ((fail_if_success (with_reducible show wpAny _ _ (execs (Stmt.If _ _ _ _ :: Stmt.Assign _ (PySem.Expr.List _ _) _ :: _) _) _ _ _)); (first | ((with_reducible show wpAny _ _ (compareOp CmpOp.NotIn (Value.int _ _) (Value.ref _)) _ _ _); (k_here; k_dflt ((first | refine notin_two (by assumption) (.head _) (iff_t (by assumption)) ?_ | refine notin_two (by assumption) (.head _) (iff_f (by assumption)) ?_); (try dsimp only [Bool.not_true, Bool.not_false]); (rename News _ _ _ ((_, _) :: _) => nZ); (have nY := news_tail nZ); clear nZ))) | ((k_here; k_dflt ((with_reducible show wpAny _ _ (PySem.call (Value.ref 160) _ _) _ _ _); (refine' u32_c (by k_asm) (by k_asm) (by k_asm) (by k_asm) (by k_asm) (by first | exact rfl | assumption) (by ktr_rel) (by cb_room) (by first | assumption | exact rfl) (by cb_room) (by first | cb_room | (simp only [List.length_append, List.length_take, List.length_drop, List.length_cons, List.length_nil]; lia)) (by cb_room) (by ktr_room) (by ktr_units) ?_); intro v9 t9 t8 h9 tk9 e9 F9 N9; (first | (have e8 := Eq.trans e9 (by assumption); subst e8) | skip); (try dsimp only); (try k_fold)))) | ((k_here; k_dflt ((with_reducible show wpAny _ _ (PySem.call (Value.ref 89) _ _) _ _ _); (refine' number_c (by k_asm) (by k_asm) (by k_asm) (by k_asm) (by k_asm) (by first | exact rfl | assumption) (by first | assumption | exact rfl) (by cb_room) (by cb_room) (by first | cb_room | (simp only [List.length_append, List.length_take, List.length_drop, List.length_cons, List.length_nil]; lia)) (by cb_room) (by cb_room) (by ktr_room) (by ktr_units) ?_); intro v9 t9 h9 tk9 e9 F9 N9; (first | (have e8 := Eq.trans e9 (by assumption); subst e8) | skip); (try dsimp only); (try k_fold)))) | ((with_reducible show wpAny _ _ (leaving _ _) _ _ _); k_dflt (refine rf_first (by assumption) (by assumption) (news_tail (by assumption)) rfl rfl (News.get (by assumption) (.head _)) (by assumption) (by assumption) (g_none (by assumption)) (g_ne (by assumption)) (by assumption) ?_; intro h8 R8 sm8)) | ((k_here; k_dflt ((with_reducible show wpAny _ _ (PySem.call (Value.ref 73) [Value.str _ _, Value.int _ _] _) _ _ _); (refine' ff_c (by k_asm) (by k_asm) (by k_asm) (by k_asm) (by k_asm) (by first | exact rfl | assumption) (by ktr_room) (by ktr_room) ?_); intro e9 h9 tk9 o9 t9 F9 N9 ne9 hc9 hd9; (refine ⟨_, _, _, rfl, in73F (by k_asm) F9, (N9 _ (.head _)).1, hc9, hd9, ?_⟩)))) | ((with_reducible show wpAny _ _ (exec (Stmt.Raise (some _) none _) _) _ _ _); (k_here; k_dflt (refine Raise_F rfl ?_))) | (with_reducible ((k_here; (with_reducible show wpAny _ _ (subscriptTail _ (Expr.Slice _ _ none _) (Value.bytes _ _) (Value.ref _)) _ _ _); (with_reducible rename Fr _ _ _ _ => F'); (with_reducible rename News _ _ _ _ => N'); (first | (refine sliceIJ (s := ⟨_, _, _, _, _⟩) F' N' (by assumption) (by lia) (by lia) (by first | lia | (simp only [List.length_append, List.length_take, List.length_drop, List.length_cons, List.length_nil]; lia)) (by lia) ?_ (by with_unfolding_all rfl) (by intro _; with_unfolding_all rfl)) | (refine sliceI (s := ⟨_, _, _, _, _⟩) F' N' (by assumption) (by lia) (by first | lia | (simp only [List.length_append, List.length_take, List.length_drop, List.length_cons, List.length_nil]; lia)) (by lia) ?_ (by with_unfolding_all rfl) (by intro _; with_unfolding_all rfl)) | (refine sliceJ (s := ⟨_, _, _, _, _⟩) F' N' (by assumption) (by lia) (by first | lia | (simp only [List.length_append, List.length_take, List.length_drop, List.length_cons, List.length_nil]; lia)) (by lia) ?_ (by with_unfolding_all rfl) (by intro _; with_unfolding_all rfl))); intro bS' hS' tS' kS' fS' nS' eS'; clear F' N'))) | (k_unfold; (try dsimp only)) | (k_end; wrow_close) | walk1 | (dsimp only; walk1))))
      rcases hb with hc | hc | ⟨hc, hc2, hc3⟩
      · (repeat' (first | ((with_reducible show wpAny _ _ (compareOp CmpOp.NotIn (Value.int _ _) (Value.ref _)) _ _ _); (k_here; k_dflt ((first | refine notin_two (by assumption) (.head _) (iff_t (by assumption)) ?_ | refine notin_two (by assumption) (.head _) (iff_f (by assumption)) ?_); (try dsimp only [Bool.not_true, Bool.not_false]); (rename News _ _ _ ((_, _) :: _) => nZ); (have nY := news_tail nZ); clear nZ))) | ((k_here; k_dflt ((with_reducible show wpAny _ _ (PySem.call (Value.ref 160) _ _) _ _ _); (refine' u32_c (by k_asm) (by k_asm) (by k_asm) (by k_asm) (by k_asm) (by first | exact rfl | assumption) (by ktr_rel) (by cb_room) (by first | assumption | exact rfl) (by cb_room) (by first | cb_room | (simp only [List.length_append, List.length_take, List.length_drop, List.length_cons, List.length_nil]; lia)) (by cb_room) (by ktr_room) (by ktr_units) ?_); intro v9 t9 t8 h9 tk9 e9 F9 N9; (first | (have e8 := Eq.trans e9 (by assumption); subst e8) | skip); (try dsimp only); (try k_fold)))) | ((k_here; k_dflt ((with_reducible show wpAny _ _ (PySem.call (Value.ref 89) _ _) _ _ _); (refine' number_c (by k_asm) (by k_asm) (by k_asm) (by k_asm) (by k_asm) (by first | exact rfl | assumption) (by first | assumption | exact rfl) (by cb_room) (by cb_room) (by first | cb_room | (simp only [List.length_append, List.length_take, List.length_drop, List.length_cons, List.length_nil]; lia)) (by cb_room) (by cb_room) (by ktr_room) (by ktr_units) ?_); intro v9 t9 h9 tk9 e9 F9 N9; (first | (have e8 := Eq.trans e9 (by assumption); subst e8) | skip); (try dsimp only); (try k_fold)))) | ((with_reducible show wpAny _ _ (leaving _ _) _ _ _); k_dflt (refine rf_first (by assumption) (by assumption) (news_tail (by assumption)) rfl rfl (News.get (by assumption) (.head _)) (by assumption) (by assumption) (g_none (by assumption)) (g_ne (by assumption)) (by assumption) ?_; intro h8 R8 sm8)) | ((k_here; k_dflt ((with_reducible show wpAny _ _ (PySem.call (Value.ref 73) [Value.str _ _, Value.int _ _] _) _ _ _); (refine' ff_c (by k_asm) (by k_asm) (by k_asm) (by k_asm) (by k_asm) (by first | exact rfl | assumption) (by ktr_room) (by ktr_room) ?_); intro e9 h9 tk9 o9 t9 F9 N9 ne9 hc9 hd9; (refine ⟨_, _, _, rfl, in73F (by k_asm) F9, (N9 _ (.head _)).1, hc9, hd9, ?_⟩)))) | ((with_reducible show wpAny _ _ (exec (Stmt.Raise (some _) none _) _) _ _ _); (k_here; k_dflt (refine Raise_F rfl ?_))) | (with_reducible ((k_here; (with_reducible show wpAny _ _ (subscriptTail _ (Expr.Slice _ _ none _) (Value.bytes _ _) (Value.ref _)) _ _ _); (with_reducible rename Fr _ _ _ _ => F'); (with_reducible rename News _ _ _ _ => N'); (first | (refine sliceIJ (s := ⟨_, _, _, _, _⟩) F' N' (by assumption) (by lia) (by lia) (by first | lia | (simp only [List.length_append, List.length_take, List.length_drop, List.length_cons, List.length_nil]; lia)) (by lia) ?_ (by with_unfolding_all rfl) (by intro _; with_unfolding_all rfl)) | (refine sliceI (s := ⟨_, _, _, _, _⟩) F' N' (by assumption) (by lia) (by first | lia | (simp only [List.length_append, List.length_take, List.length_drop, List.length_cons, List.length_nil]; lia)) (by lia) ?_ (by with_unfolding_all rfl) (by intro _; with_unfolding_all rfl)) | (refine sliceJ (s := ⟨_, _, _, _, _⟩) F' N' (by assumption) (by lia) (by first | lia | (simp only [List.length_append, List.length_take, List.length_drop, List.length_cons, List.length_nil]; lia)) (by lia) ?_ (by with_unfolding_all rfl) (by intro _; with_unfolding_all rfl))); intro bS' hS' tS' kS' fS' nS' eS'; clear F' N'))) | (k_unfold; (try dsimp only)) | (k_end; wrow_close) | walk1 | (dsimp only; walk1) | (leave1; walk_say "STEP leave1"; try dsimp only) | fail "no step"))
        all_goals exact hrai _ _ _ _ (by assumption) (RaisedN.sub (by assumption) (by intro p hp; repeat (first | exact hp | refine .tail _ ?_))) (by assumption)
      · (repeat' (first | ((with_reducible show wpAny _ _ (compareOp CmpOp.NotIn (Value.int _ _) (Value.ref _)) _ _ _); (k_here; k_dflt ((first | refine notin_two (by assumption) (.head _) (iff_t (by assumption)) ?_ | refine notin_two (by assumption) (.head _) (iff_f (by assumption)) ?_); (try dsimp only [Bool.not_true, Bool.not_false]); (rename News _ _ _ ((_, _) :: _) => nZ); (have nY := news_tail nZ); clear nZ))) | ((k_here; k_dflt ((with_reducible show wpAny _ _ (PySem.call (Value.ref 160) _ _) _ _ _); (refine' u32_c (by k_asm) (by k_asm) (by k_asm) (by k_asm) (by k_asm) (by first | exact rfl | assumption) (by ktr_rel) (by cb_room) (by first | assumption | exact rfl) (by cb_room) (by first | cb_room | (simp only [List.length_append, List.length_take, List.length_drop, List.length_cons, List.length_nil]; lia)) (by cb_room) (by ktr_room) (by ktr_units) ?_); intro v9 t9 t8 h9 tk9 e9 F9 N9; (first | (have e8 := Eq.trans e9 (by assumption); subst e8) | skip); (try dsimp only); (try k_fold)))) | ((k_here; k_dflt ((with_reducible show wpAny _ _ (PySem.call (Value.ref 89) _ _) _ _ _); (refine' number_c (by k_asm) (by k_asm) (by k_asm) (by k_asm) (by k_asm) (by first | exact rfl | assumption) (by first | assumption | exact rfl) (by cb_room) (by cb_room) (by first | cb_room | (simp only [List.length_append, List.length_take, List.length_drop, List.length_cons, List.length_nil]; lia)) (by cb_room) (by cb_room) (by ktr_room) (by ktr_units) ?_); intro v9 t9 h9 tk9 e9 F9 N9; (first | (have e8 := Eq.trans e9 (by assumption); subst e8) | skip); (try dsimp only); (try k_fold)))) | ((with_reducible show wpAny _ _ (leaving _ _) _ _ _); k_dflt (refine rf_first (by assumption) (by assumption) (news_tail (by assumption)) rfl rfl (News.get (by assumption) (.head _)) (by assumption) (by assumption) (g_none (by assumption)) (g_ne (by assumption)) (by assumption) ?_; intro h8 R8 sm8)) | ((k_here; k_dflt ((with_reducible show wpAny _ _ (PySem.call (Value.ref 73) [Value.str _ _, Value.int _ _] _) _ _ _); (refine' ff_c (by k_asm) (by k_asm) (by k_asm) (by k_asm) (by k_asm) (by first | exact rfl | assumption) (by ktr_room) (by ktr_room) ?_); intro e9 h9 tk9 o9 t9 F9 N9 ne9 hc9 hd9; (refine ⟨_, _, _, rfl, in73F (by k_asm) F9, (N9 _ (.head _)).1, hc9, hd9, ?_⟩)))) | ((with_reducible show wpAny _ _ (exec (Stmt.Raise (some _) none _) _) _ _ _); (k_here; k_dflt (refine Raise_F rfl ?_))) | (with_reducible ((k_here; (with_reducible show wpAny _ _ (subscriptTail _ (Expr.Slice _ _ none _) (Value.bytes _ _) (Value.ref _)) _ _ _); (with_reducible rename Fr _ _ _ _ => F'); (with_reducible rename News _ _ _ _ => N'); (first | (refine sliceIJ (s := ⟨_, _, _, _, _⟩) F' N' (by assumption) (by lia) (by lia) (by first | lia | (simp only [List.length_append, List.length_take, List.length_drop, List.length_cons, List.length_nil]; lia)) (by lia) ?_ (by with_unfolding_all rfl) (by intro _; with_unfolding_all rfl)) | (refine sliceI (s := ⟨_, _, _, _, _⟩) F' N' (by assumption) (by lia) (by first | lia | (simp only [List.length_append, List.length_take, List.length_drop, List.length_cons, List.length_nil]; lia)) (by lia) ?_ (by with_unfolding_all rfl) (by intro _; with_unfolding_all rfl)) | (refine sliceJ (s := ⟨_, _, _, _, _⟩) F' N' (by assumption) (by lia) (by first | lia | (simp only [List.length_append, List.length_take, List.length_drop, List.length_cons, List.length_nil]; lia)) (by lia) ?_ (by with_unfolding_all rfl) (by intro _; with_unfolding_all rfl))); intro bS' hS' tS' kS' fS' nS' eS'; clear F' N'))) | (k_unfold; (try dsimp only)) | (k_end; wrow_close) | walk1 | (dsimp only; walk1) | (leave1; walk_say "STEP leave1"; try dsimp only) | fail "no step"))
        all_goals exact hrai _ _ _ _ (by assumption) (RaisedN.sub (by assumption) (by intro p hp; repeat (first | exact hp | refine .tail _ ?_))) (by assumption)
      · (repeat' (first | ((with_reducible show wpAny _ _ (compareOp CmpOp.NotIn (Value.int _ _) (Value.ref _)) _ _ _); (k_here; k_dflt ((first | refine notin_two (by assumption) (.head _) (iff_t (by assumption)) ?_ | refine notin_two (by assumption) (.head _) (iff_f (by assumption)) ?_); (try dsimp only [Bool.not_true, Bool.not_false]); (rename News _ _ _ ((_, _) :: _) => nZ); (have nY := news_tail nZ); clear nZ))) | ((k_here; k_dflt ((with_reducible show wpAny _ _ (PySem.call (Value.ref 160) _ _) _ _ _); (refine' u32_c (by k_asm) (by k_asm) (by k_asm) (by k_asm) (by k_asm) (by first | exact rfl | assumption) (by ktr_rel) (by cb_room) (by first | assumption | exact rfl) (by cb_room) (by first | cb_room | (simp only [List.length_append, List.length_take, List.length_drop, List.length_cons, List.length_nil]; lia)) (by cb_room) (by ktr_room) (by ktr_units) ?_); intro v9 t9 t8 h9 tk9 e9 F9 N9; (first | (have e8 := Eq.trans e9 (by assumption); subst e8) | skip); (try dsimp only); (try k_fold)))) | ((k_here; k_dflt ((with_reducible show wpAny _ _ (PySem.call (Value.ref 89) _ _) _ _ _); (refine' number_c (by k_asm) (by k_asm) (by k_asm) (by k_asm) (by k_asm) (by first | exact rfl | assumption) (by first | assumption | exact rfl) (by cb_room) (by cb_room) (by first | cb_room | (simp only [List.length_append, List.length_take, List.length_drop, List.length_cons, List.length_nil]; lia)) (by cb_room) (by cb_room) (by ktr_room) (by ktr_units) ?_); intro v9 t9 h9 tk9 e9 F9 N9; (first | (have e8 := Eq.trans e9 (by assumption); subst e8) | skip); (try dsimp only); (try k_fold)))) | ((with_reducible show wpAny _ _ (leaving _ _) _ _ _); k_dflt (refine rf_first (by assumption) (by assumption) (news_tail (by assumption)) rfl rfl (News.get (by assumption) (.head _)) (by assumption) (by assumption) (g_none (by assumption)) (g_ne (by assumption)) (by assumption) ?_; intro h8 R8 sm8)) | ((k_here; k_dflt ((with_reducible show wpAny _ _ (PySem.call (Value.ref 73) [Value.str _ _, Value.int _ _] _) _ _ _); (refine' ff_c (by k_asm) (by k_asm) (by k_asm) (by k_asm) (by k_asm) (by first | exact rfl | assumption) (by ktr_room) (by ktr_room) ?_); intro e9 h9 tk9 o9 t9 F9 N9 ne9 hc9 hd9; (refine ⟨_, _, _, rfl, in73F (by k_asm) F9, (N9 _ (.head _)).1, hc9, hd9, ?_⟩)))) | ((with_reducible show wpAny _ _ (exec (Stmt.Raise (some _) none _) _) _ _ _); (k_here; k_dflt (refine Raise_F rfl ?_))) | (with_reducible ((k_here; (with_reducible show wpAny _ _ (subscriptTail _ (Expr.Slice _ _ none _) (Value.bytes _ _) (Value.ref _)) _ _ _); (with_reducible rename Fr _ _ _ _ => F'); (with_reducible rename News _ _ _ _ => N'); (first | (refine sliceIJ (s := ⟨_, _, _, _, _⟩) F' N' (by assumption) (by lia) (by lia) (by first | lia | (simp only [List.length_append, List.length_take, List.length_drop, List.length_cons, List.length_nil]; lia)) (by lia) ?_ (by with_unfolding_all rfl) (by intro _; with_unfolding_all rfl)) | (refine sliceI (s := ⟨_, _, _, _, _⟩) F' N' (by assumption) (by lia) (by first | lia | (simp only [List.length_append, List.length_take, List.length_drop, List.length_cons, List.length_nil]; lia)) (by lia) ?_ (by with_unfolding_all rfl) (by intro _; with_unfolding_all rfl)) | (refine sliceJ (s := ⟨_, _, _, _, _⟩) F' N' (by assumption) (by lia) (by first | lia | (simp only [List.length_append, List.length_take, List.length_drop, List.length_cons, List.length_nil]; lia)) (by lia) ?_ (by with_unfolding_all rfl) (by intro _; with_unfolding_all rfl))); intro bS' hS' tS' kS' fS' nS' eS'; clear F' N'))) | (k_unfold; (try dsimp only)) | (k_end; wrow_close) | walk1 | (dsimp only; walk1) | (leave1; walk_say "STEP leave1"; try dsimp only) | fail "no step"))
        all_goals exact hrai _ _ _ _ (by assumption) (RaisedN.sub (by assumption) (by intro p hp; repeat (first | exact hp | refine .tail _ ?_))) (by assumption)
end
end
section
theorem part14 : True := by
  w_top off
  trivial
/-- what read_collection refuses -/
inductive RcBad (ks : List Int) : Prop
  | early (h : RcBad0 ks) : RcBad ks
  | font (cnt ver : Int) (fs : List FRes) (h12 : 12 ≤ ks.length) (hmag : beL ((ks.drop (0 : Int).toNat).take 4) = 1953784678) (hver : beL ((ks.drop (4 : Int).toNat).take 4) = ver) (hvv : ver = 65536 ∨ ver = 131072) (hcnt : beL ((ks.drop (4 + 4 : Int).toNat).take 4) = cnt) (hc1 : 0 < cnt) (hc2 : cnt ≤ 64) (hc3 : 12 + 4 * cnt ≤ (ks.length : Int)) (hfl : (fs.length : Int) < cnt) (hfs : ∀ i (hi : i < fs.length), FontAt ks (beL ((ks.drop (12 + 4 * (i : Int)).toNat).take 4)) fs[i]) (hbad : FontBad ks (beL ((ks.drop (12 + 4 * (fs.length : Int)).toNat).take 4))) : RcBad ks
section
variable {w : World} {mean : ExcName → Option Value} {mg mb : Str → Option Value} {dp un : Nat} {gd : Option (List Code)} {cn : Str} {cs : Scope} {a : Addr} {ccd : Value} {cl : List (Str × Addr)} {outer : List Env} {A₀ : Around} {base h₀ : Heap} {L : Addr} {m : Str → Option Value} {s : Shared} {Q E : Value → Shared → Prop}
set_option maxRecDepth 100000 in
set_option maxHeartbeats 8000000 in
theorem rcb_c {d : Array UInt8} {ks : List Int} {t1 : Tok} {news : List (Addr × Obj)}
  (B : Below A₀ base outer h₀) (F : Fr h₀ L s.heap m) (X : (Mine.hd.heap_39 w.params).In h₀) (N : News h₀ L s.heap (news)) (T : Top Mine.hd.view_39 (looseW Mine.hd.view_39 [Str.ofString "ShapeError", Str.ofString "VERSIONS"]) mean mg mb h₀) (hk : cs.kind = .function)
  (hks : KBw.bInts d = ks) (hs : ks.length ≤ 1048576) (hb : RcBad ks)
  (hd : dp + 60 ≤ 450) (hu : un + 480 ≤ 1800)
  (hrai : ∀ e h' tk' G, Fr h₀ L G m → RaisedN base (envX cn cs L a ccd cl :: outer) e (.ref 73) (news) h' → G.UpToSlots h' → E (.ref e) { s with heap := h', toks := tk' }) :
  wpAny (model PySem.Challenge.rw_pb0178_01.row.prog w) (ktrTop dp un gd cn cs L a ccd cl outer) (call (.ref 263) [.bytes d t1]) Q E s := by
  cases hb with
  | early hb => exact rce_c B F X N T hk hks hs hb hd hu hrai
  | font cnt ver fs h12 hmag hver hvv hcnt hc1 hc2 hc3 hfl hfs hbad => exact rc_c B F X N T hk hks hs h12 hmag hver hvv hcnt hc1 hc2 hc3 (Int.le_of_lt hfl) hfs (fun _ => hbad) hd hu (fun e => absurd e (Int.ne_of_lt hfl)) (fun _ => hrai)
theorem code_defR {p : Program} {loose : List Str} {mean : ExcName → Option Value} {mg mb : Str → Option Value} {K : Frag} {prog : Program} {w : World} {A A₀ : Around} {base h₀ : Heap} {L : Addr} {m : Str → Option Value} {s : Shared} {news : List (Addr × Obj)} {env : Env} {outer : List Env} {R : PySem.Result → Shared → Prop} {name qual : Str} {params : Arguments} {body : List Stmt} {scope : Scope} {dV kV doc pm cdv ct oc : Value} {an od : Option Addr} {osl : Array (Option Value)} {f : Addr} {args : Args} {binds : List (Str × Value)}
    (B : Below A₀ base outer h₀) (F : Fr h₀ L s.heap m) (X₀ : K.In h₀) (N : News h₀ L s.heap news) (T : Top p loose mean mg mb h₀) (hA : A.frames = some (env :: outer)) (hf : env.frame = some L) (hke : env.scope.kind = .function)
    (ho : K.lookup f = some ⟨oc, od, .func (fnOf name qual params body scope dV kV doc pm an cdv ct), osl⟩) (hcd : codeIn K cdv qual = true) (hroom : A.depth < recursionLimit)
    (hbind : BindsTo s (fnOf name qual params body scope dV kV doc pm an cdv ct) args binds) (hloc : ∀ x ∈ binds, scope.names.lookup x.1 = some .local)
    (h : ∀ g L' h₁ tk, Fr h₀ L g m → Fr h₀ L h₁ m → Fr g L' h₁ (fun x => binds.reverse.lookup x) → News g L' h₁ news → Below A base (env :: outer) g → K.In g → Top p loose mean mg mb g →
      wpAny (model prog w) (A.deeper (envOf qual scope L' f cdv)) (execs body (envOf qual scope L' f cdv))
        (fun fl s' => R (.ok (.ret (match fl with | .ret v => v | _ => .none))) s')
        (fun e s' => wpAny (model prog w) (A.deeper (envOf qual scope L' f cdv)) (leaving (envOf qual scope L' f cdv) e) (fun _ s'' => R (.error e) s'') (fun e' s'' => R (.error e') s'') s')
        { s with heap := h₁, toks := tk })
    (hco : scope.isCoroutine = false) (hgen : scope.isGenerator = false) (hk : scope.kind = .function) (hcell : ∀ x ∈ scope.names, x.2 ≠ .cell) : codeAny (model prog w) A (.call (.ref f) args) R s := by
  obtain ⟨FG, BG, st, _⟩ := groundX (R := R) B F N hA hf hke
  refine codeAny_call_function hroom ((X₀.keeps F.keep) _ _ ho) rfl hco hgen rfl (codeRec_of (X₀.keeps F.keep) hcd) (hbind _ _ _ _ ?_)
  refine wpAny_newFunctionEnv hcell hloc (fun h₁ hns hsb => ?_) hk
  have hk₁ : ∀ b o, s.heap.get? b = some o → h₁.get? b = some o := fun b o e => hsb.extBut b o (Nat.ne_of_lt (Heap.lt_size e)) (Heap.get?_push_of_some _ e)
  refine ⟨(T.nolimit.keeps F.keep).keeps hk₁, codeAny_func ?_⟩
  refine h _ s.heap.objs.size h₁ _ FG (F.keeps hk₁) ⟨hns, fun b o e => hk₁ b o (of_hideAll _ e), Nat.le_of_eq (hideAll_size _ _)⟩ (fun p hp => ⟨hk₁ _ _ (N p hp).1, Nat.ne_of_lt (Heap.lt_size (N p hp).1), hideAll_none _ (List.mem_map_of_mem hp)⟩) BG (X₀.keeps st) (T.keeps st)
section
variable {prog : Program} {w : World} {A : Around} {E : Value → Shared → Prop} {s : Shared} {env : Env}
theorem handleBy_F {e : Addr} {t : Expr} {b₀ : Stmt} {suite : List Stmt} {pos : Pos} {rest : List ExceptHandler} {Q : PySem.Flow → Shared → Prop}
    (h : wpAny (model prog w) (A.mark (some (.ref e))) (eval t env) (fun c s₁ => c = .ref 73 ∧ s₁.heap.get? 73 = some clsF ∧ (∃ oe, s₁.heap.get? e = some oe ∧ oe.cls = .ref 73) ∧
      wpAny (model prog w) (A.mark (some (.ref e))) (setFlight (.ref e) none) (fun _ s₂ => wpAny (model prog w) (A.mark (some (.ref e))) (execs (b₀ :: suite) env) Q (notedBy (model prog w) (A.mark (some (.ref e))) env (cameBackBy (model prog w) A env E)) s₂) (notedBy (model prog w) (A.mark (some (.ref e))) env (cameBackBy (model prog w) A env E)) s₁) (notedBy (model prog w) (A.mark (some (.ref e))) env (cameBackBy (model prog w) A env E)) s) :
    wpAny (model prog w) A (handleBy (.ref e) env (.ExceptHandler (some t) none (b₀ :: suite) pos :: rest)) Q E s := by
  refine wpAny_handleBy_cons (codeAny_handlers_test (wpAny_mono h (fun c s₁ h₁ => ?_) fun _ _ y => y)) (by intro q; cases q)
  obtain ⟨rfl, hC, ⟨oe, he, hcls⟩, hk⟩ := h₁
  obtain ⟨hh, g, d, tk, os⟩ := s₁
  exact wpAny_excMatches_sub_self hC he hcls (by decide) (codeAny_handlers_suite hk)
end
theorem caught_F {w : World} {mean : ExcName → Option Value} {mg mb : Str → Option Value} {A : Around} {E : Value → Shared → Prop} {s' : Shared} {base G : Heap} {l : List Env} {L LL a e : Addr} {m mL : Str → Option Value} {name : Str} {scope : Scope} {cd : Value} {el : Env}
    {b₀ : Stmt} {suite : List Stmt} {pos np : Pos} {rest : List ExceptHandler} {Q : PySem.Flow → Shared → Prop} {news : List (Addr × Obj)}
    (hfr : (A.deeper (envOf name scope L a cd)).frames = some (envOf name scope L a cd :: l)) (Fb : Fr base L G m) (FL : Fr base LL G mL) (hel : el ∈ l) (helf : el.frame = some LL) (hsm : G.UpToSlots s'.heap)
    (R : RaisedN base (envOf name scope L a cd :: l) e (.ref 73) news s'.heap) (X : (Mine.hd.heap_39 w.params).In base) (T : Top Mine.hd.view_39 (looseW Mine.hd.view_39 [Str.ofString "ShapeError", Str.ofString "VERSIONS"]) mean mg mb base)
    (k : ∀ h', Fr base L h' m → Fr base LL h' mL → News base LL h' news → wpAny (model PySem.Challenge.rw_pb0178_01.row.prog w) ((A.deeper (envOf name scope L a cd)).mark (some (.ref e))) (execs (b₀ :: suite) (envOf name scope L a cd)) Q E { s' with heap := h' })
    (hk : scope.kind = .function) (hx : (envOf name scope L a cd).kindOf (Str.ofString "FontFault") = some .globalImplicit)
    (hE : PassesOwnAt (model PySem.Challenge.rw_pb0178_01.row.prog w) ((A.deeper (envOf name scope L a cd)).mark (some (.ref e))) (A.deeper (envOf name scope L a cd)) (envOf name scope L a cd) E := by passes_own) :
    wpAny (model PySem.Challenge.rw_pb0178_01.row.prog w) (A.deeper (envOf name scope L a cd)) (noteFrame (.ref e) (envOf name scope L a cd))
      (fun _ s₂ => wpAny (model PySem.Challenge.rw_pb0178_01.row.prog w) (A.deeper (envOf name scope L a cd)) (setFlight (.ref e) none) (fun _ s₃ =>
        wpAny (model PySem.Challenge.rw_pb0178_01.row.prog w) (A.deeper (envOf name scope L a cd)) (handleBy (.ref e) (envOf name scope L a cd) (.ExceptHandler (some (.Name (Str.ofString "FontFault") np)) none (b₀ :: suite) pos :: rest)) Q E s₃) E s₂) E s' := by
  obtain ⟨B, a0, hB, hl, hfl⟩ := R
  have hLL : B.get? LL = none := (hfl.2.2.1.mem (List.mem_filterMap.mpr ⟨el, .tail _ hel, helf⟩)).1
  refine wpAny_looks_onW hfr rfl hfl fun h₄ hheld₄ hsm₄ => ?_
  refine wpAny_landsW hheld₄ fun h₅ hheld hsm₅' => ?_
  have hsm₅ := hsm₄.trans hsm₅'
  have F₅ : Fr base L h₅ m := Fb.of_stays (fun b o q => hheld.1 b o (hB b o q)) (hsm.trans hsm₅)
  have P₅ := topRead_of T
  refine handleBy_F (nameX_K F₅ X P₅ (by kernel_rfl) ⟨rfl, in73 (X.keeps F₅.keep), hheld.there, ?_⟩ (hk := hk) (hx := hx))
  refine lands_againW hheld fun h₆ hfl₆ hsm₆ => ?_
  have st : base.StaysIn h₆ := fun b o q => hfl₆.1 b o (hB b o q)
  have F₆ : Fr base L h₆ m := Fb.of_stays st ((hsm.trans hsm₅).trans hsm₆)
  have FL₆ : Fr base LL h₆ mL := FL.of_stays st ((hsm.trans hsm₅).trans hsm₆)
  refine wpAny_passesOwnAt hE (k h₆ F₆ FL₆ fun q hq => ⟨hfl₆.1 _ _ (hl q hq).1, fun z => ?_, (hl q hq).2⟩)
  have z1 := (hl q hq).1
  rw [z, hLL] at z1
  cases z1
set_option maxRecDepth 100000 in
set_option maxHeartbeats 8000000 in
theorem refused_c {d : Array UInt8} {ks : List Int} {t1 : Tok} {news : List (Addr × Obj)}
  (B : Below A₀ h₀ outer h₀) (F : Fr h₀ L s.heap m) (X : (Mine.hd.heap_39 w.params).In h₀) (N : News h₀ L s.heap (news)) (T : Top Mine.hd.view_39 (looseW Mine.hd.view_39 [Str.ofString "ShapeError", Str.ofString "VERSIONS"]) mean mg mb h₀) (hk : cs.kind = .function)
  (hks : KBw.bInts d = ks) (hs : ks.length ≤ 1048576) (hb : RcBad ks)
  (hd : dp + 62 ≤ 450) (hu : un + 496 ≤ 1800)
  (hret : ∀ h' tk', Fr h₀ L h' m → News h₀ L h' news → Q (.bool true) { s with heap := h', toks := tk' }) :
  wpAny (model PySem.Challenge.rw_pb0178_01.row.prog w) (ktrTop dp un gd cn cs L a ccd cl outer) (call (.ref 288) [.bytes d t1]) Q E s := by
  refine wpAny_call ?_
  refine' code_defR ?k1 ?k2 ?k3 ?k4 ?k5 ?kA ?kF ?kK ?k6 ?k7 ?k8 ?k9 ?kB ?_ ?c2 ?c3 ?c4 ?c5
  case kA => exact rfl
  case kF => exact rfl
  case kK => assumption
  case k1 => k_asm
  case k2 => k_asm
  case k3 => k_asm
  case k4 => k_asm
  case k5 => k_asm
  case k6 => k_is
  case k7 => k_is
  case k8 => ktr_room
  case k9 => exact BindsTo.of_eq rfl
  case c5 => decide
  case kB => exact locs rfl
  case c2 => exact rfl
  case c3 => exact rfl
  case c4 => exact rfl
  intro g' L' h₁ tk FG FL F' N' B' X' T'
  repeat' (first | ((fail_if_success (with_reducible show wpAny _ _ (PySem.call (Value.ref 263) _ _) _ _ _)); (first | ((with_reducible show wpAny _ _ (leaving _ _) _ _ _); k_dflt (refine rf_first (by assumption) (by assumption) (news_tail (by assumption)) rfl rfl (News.get (by assumption) (.head _)) (by assumption) (by assumption) (g_none (by assumption)) (g_ne (by assumption)) (by assumption) ?_; intro h8 R8 sm8)) | ((k_here; k_dflt ((with_reducible show wpAny _ _ (PySem.call (Value.ref 73) [Value.str _ _, Value.int _ _] _) _ _ _); (refine' ff_c (by k_asm) (by k_asm) (by k_asm) (by k_asm) (by k_asm) (by first | exact rfl | assumption) (by ktr_room) (by ktr_room) ?_); intro e9 h9 tk9 o9 t9 F9 N9 ne9 hc9 hd9; (refine ⟨_, _, _, rfl, in73F (by k_asm) F9, (N9 _ (.head _)).1, hc9, hd9, ?_⟩)))) | ((with_reducible show wpAny _ _ (exec (Stmt.Raise (some _) none _) _) _ _ _); (k_here; k_dflt (refine Raise_F rfl ?_))) | (k_unfold; (try dsimp only)) | (k_end; wrow_close) | walk1 | (dsimp only; walk1))))
  refine rcb_c B' F' X' N' T' rfl hks hs hb (by dsimp only [ktrTop]; lia) (by dsimp only [ktrTop]; lia) ?_
  intro e h' tk' G FG' R U
  have FLG := FG.keeps FG'.keep
  have Fb : Fr h₀ L' G _ := ⟨FG'.ns, fun b o q => FG'.keep b o (FG.keep b o q), Nat.le_trans FG.above (Nat.le_trans (Nat.le_of_lt FG.ns.lt) FG'.above)⟩
  refine caught_F (A := ktrTop dp un gd cn cs L a ccd cl outer) rfl Fb FLG (.head _) rfl U R X T ?_ rfl rfl
  intro h₂ F₂ FL₂ N₂
  (repeat' (first | ((with_reducible show wpAny _ _ (leaving _ _) _ _ _); k_dflt (refine rf_first (by assumption) (by assumption) (news_tail (by assumption)) rfl rfl (News.get (by assumption) (.head _)) (by assumption) (by assumption) (g_none (by assumption)) (g_ne (by assumption)) (by assumption) ?_; intro h8 R8 sm8)) | ((k_here; k_dflt ((with_reducible show wpAny _ _ (PySem.call (Value.ref 73) [Value.str _ _, Value.int _ _] _) _ _ _); (refine' ff_c (by k_asm) (by k_asm) (by k_asm) (by k_asm) (by k_asm) (by first | exact rfl | assumption) (by ktr_room) (by ktr_room) ?_); intro e9 h9 tk9 o9 t9 F9 N9 ne9 hc9 hd9; (refine ⟨_, _, _, rfl, in73F (by k_asm) F9, (N9 _ (.head _)).1, hc9, hd9, ?_⟩)))) | ((with_reducible show wpAny _ _ (exec (Stmt.Raise (some _) none _) _) _ _ _); (k_here; k_dflt (refine Raise_F rfl ?_))) | (k_unfold; (try dsimp only)) | (k_end; wrow_close) | walk1 | (dsimp only; walk1) | (leave1; walk_say "STEP leave1"; try dsimp only) | fail "no step"))
  exact hret _ _ FL₂ N₂
end
end
section
local macro_rules | `(tactic| k_mem) => `(tactic| first | with_reducible assumption | exact mem_of (by with_reducible assumption) | exact List.mem_cons_of_mem _ (by with_reducible assumption))
theorem part15 : True := by
  w_top off
  trivial
section
variable {w : World} {mean : ExcName → Option Value} {mg mb : Str → Option Value} {dp un : Nat} {gd : Option (List Code)} {cn : Str} {cs : Scope} {a : Addr} {ccd : Value} {cl : List (Str × Addr)} {outer : List Env} {A₀ : Around} {base h₀ : Heap} {L : Addr} {m : Str → Option Value} {s : Shared} {Q E : Value → Shared → Prop}
set_option maxRecDepth 100000 in
set_option maxHeartbeats 8000000 in
theorem draw_c {tp c : Addr} {vs : List Value} {ns : List Int} {i many : Int} {ti tm : Tok} {n n' : Nat} {rest : List (Addr × Obj)}
  (B : Below A₀ base outer h₀) (F : Fr h₀ L s.heap m) (X : (Mine.hd.heap_39 w.params).In h₀) (N : News h₀ L s.heap ((tp, listOf #[.ref c, .int i ti] n) :: (c, listOf vs.toArray n') :: rest)) (T : Top Mine.hd.view_39 (looseW Mine.hd.view_39 [Str.ofString "ShapeError", Str.ofString "VERSIONS"]) mean mg mb h₀) (hk : cs.kind = .function)
  (off : OwnOff rest [tp]) (hct : @Ne Nat c tp) (hi : IntsAre vs ns) (hn1 : 1 ≤ ns.length) (hn2 : ns.length ≤ 60) (h0 : 0 ≤ i) (h1 : i < 200) (hm : 0 < many) (hm2 : many ≤ 256)
  (hd : dp + 2 < recursionLimit) (hu : un + 16 < cLine)
  (hret : ∀ v t t2 n2 h' tk', 0 ≤ v → v < many → Fr h₀ L h' m → News h₀ L h' ((tp, listOf #[.ref c, .int (i + 1) t2] n2) :: (c, listOf vs.toArray n') :: rest) → Q (.int v t) { s with heap := h', toks := tk' }) :
  wpAny (model PySem.Challenge.rw_pb0178_01.row.prog w) (ktrTop dp un gd cn cs L a ccd cl outer) (call (.ref 271) [.ref tp, .int many tm]) Q E s := by
  refine wpAny_call ?_
  k_dflt cell_enter
  k_steps
  all_goals exact hret _ _ _ _ _ _ (Int.fmod_nonneg_of_pos _ hm) (Int.fmod_lt_of_pos _ hm) (by assumption) (by assumption)
end
end
section
theorem part16 : True := by
  w_top off
  trivial
theorem rot1 {h₀ h : Heap} {L : Addr} {a1 x y : Addr × Obj} {r : List (Addr × Obj)} (N : News h₀ L h (a1 :: x :: y :: r)) : News h₀ L h (x :: y :: a1 :: r) := fun p hp => N p (by
  refine List.subset_def.mp ?_ hp
  repeat (first | refine List.cons_subset.mpr ⟨by repeat (first | exact .head _ | refine .tail _ ?_), ?_⟩ | refine List.append_subset.mpr ⟨?_, ?_⟩)
  all_goals first | exact List.nil_subset _ | exact fun _ h => by repeat (first | exact h | exact List.mem_append_left _ h | refine .tail _ ?_ | refine List.mem_append_right _ ?_))
theorem rot2 {h₀ h : Heap} {L : Addr} {a1 a2 x y : Addr × Obj} {r : List (Addr × Obj)} (N : News h₀ L h (a1 :: a2 :: x :: y :: r)) : News h₀ L h (x :: y :: a1 :: a2 :: r) := fun p hp => N p (by
  refine List.subset_def.mp ?_ hp
  repeat (first | refine List.cons_subset.mpr ⟨by repeat (first | exact .head _ | refine .tail _ ?_), ?_⟩ | refine List.append_subset.mpr ⟨?_, ?_⟩)
  all_goals first | exact List.nil_subset _ | exact fun _ h => by repeat (first | exact h | exact List.mem_append_left _ h | refine .tail _ ?_ | refine List.mem_append_right _ ?_))
theorem rot3 {h₀ h : Heap} {L : Addr} {a1 a2 a3 x y : Addr × Obj} {r : List (Addr × Obj)} (N : News h₀ L h (a1 :: a2 :: a3 :: x :: y :: r)) : News h₀ L h (x :: y :: a1 :: a2 :: a3 :: r) := fun p hp => N p (by
  refine List.subset_def.mp ?_ hp
  repeat (first | refine List.cons_subset.mpr ⟨by repeat (first | exact .head _ | refine .tail _ ?_), ?_⟩ | refine List.append_subset.mpr ⟨?_, ?_⟩)
  all_goals first | exact List.nil_subset _ | exact fun _ h => by repeat (first | exact h | exact List.mem_append_left _ h | refine .tail _ ?_ | refine List.mem_append_right _ ?_))
theorem rot4 {h₀ h : Heap} {L : Addr} {a1 a2 a3 a4 x y : Addr × Obj} {r : List (Addr × Obj)} (N : News h₀ L h (a1 :: a2 :: a3 :: a4 :: x :: y :: r)) : News h₀ L h (x :: y :: a1 :: a2 :: a3 :: a4 :: r) := fun p hp => N p (by
  refine List.subset_def.mp ?_ hp
  repeat (first | refine List.cons_subset.mpr ⟨by repeat (first | exact .head _ | refine .tail _ ?_), ?_⟩ | refine List.append_subset.mpr ⟨?_, ?_⟩)
  all_goals first | exact List.nil_subset _ | exact fun _ h => by repeat (first | exact h | exact List.mem_append_left _ h | refine .tail _ ?_ | refine List.mem_append_right _ ?_))
theorem rot5 {h₀ h : Heap} {L : Addr} {a1 a2 a3 a4 a5 x y : Addr × Obj} {r : List (Addr × Obj)} (N : News h₀ L h (a1 :: a2 :: a3 :: a4 :: a5 :: x :: y :: r)) : News h₀ L h (x :: y :: a1 :: a2 :: a3 :: a4 :: a5 :: r) := fun p hp => N p (by
  refine List.subset_def.mp ?_ hp
  repeat (first | refine List.cons_subset.mpr ⟨by repeat (first | exact .head _ | refine .tail _ ?_), ?_⟩ | refine List.append_subset.mpr ⟨?_, ?_⟩)
  all_goals first | exact List.nil_subset _ | exact fun _ h => by repeat (first | exact h | exact List.mem_append_left _ h | refine .tail _ ?_ | refine List.mem_append_right _ ?_))
theorem rot6 {h₀ h : Heap} {L : Addr} {a1 a2 a3 a4 a5 a6 x y : Addr × Obj} {r : List (Addr × Obj)} (N : News h₀ L h (a1 :: a2 :: a3 :: a4 :: a5 :: a6 :: x :: y :: r)) : News h₀ L h (x :: y :: a1 :: a2 :: a3 :: a4 :: a5 :: a6 :: r) := fun p hp => N p (by
  refine List.subset_def.mp ?_ hp
  repeat (first | refine List.cons_subset.mpr ⟨by repeat (first | exact .head _ | refine .tail _ ?_), ?_⟩ | refine List.append_subset.mpr ⟨?_, ?_⟩)
  all_goals first | exact List.nil_subset _ | exact fun _ h => by repeat (first | exact h | exact List.mem_append_left _ h | refine .tail _ ?_ | refine List.mem_append_right _ ?_))
theorem rot7 {h₀ h : Heap} {L : Addr} {a1 a2 a3 a4 a5 a6 a7 x y : Addr × Obj} {r : List (Addr × Obj)} (N : News h₀ L h (a1 :: a2 :: a3 :: a4 :: a5 :: a6 :: a7 :: x :: y :: r)) : News h₀ L h (x :: y :: a1 :: a2 :: a3 :: a4 :: a5 :: a6 :: a7 :: r) := fun p hp => N p (by
  refine List.subset_def.mp ?_ hp
  repeat (first | refine List.cons_subset.mpr ⟨by repeat (first | exact .head _ | refine .tail _ ?_), ?_⟩ | refine List.append_subset.mpr ⟨?_, ?_⟩)
  all_goals first | exact List.nil_subset _ | exact fun _ h => by repeat (first | exact h | exact List.mem_append_left _ h | refine .tail _ ?_ | refine List.mem_append_right _ ?_))
theorem rot8 {h₀ h : Heap} {L : Addr} {a1 a2 a3 a4 a5 a6 a7 a8 x y : Addr × Obj} {r : List (Addr × Obj)} (N : News h₀ L h (a1 :: a2 :: a3 :: a4 :: a5 :: a6 :: a7 :: a8 :: x :: y :: r)) : News h₀ L h (x :: y :: a1 :: a2 :: a3 :: a4 :: a5 :: a6 :: a7 :: a8 :: r) := fun p hp => N p (by
  refine List.subset_def.mp ?_ hp
  repeat (first | refine List.cons_subset.mpr ⟨by repeat (first | exact .head _ | refine .tail _ ?_), ?_⟩ | refine List.append_subset.mpr ⟨?_, ?_⟩)
  all_goals first | exact List.nil_subset _ | exact fun _ h => by repeat (first | exact h | exact List.mem_append_left _ h | refine .tail _ ?_ | refine List.mem_append_right _ ?_))
theorem tup_in {h₀ : Heap} {ax : Addr} {its : Array Value} {n : Nat} {news : List (Addr × Obj)} (h : (ax, ({ cls := .type "tuple", data := .seq its n } : Obj)) ∈ news) : TupAt h₀ ax its news := .inr ⟨_, h, rfl, _, rfl⟩
theorem cendT {h₀ : Heap} {L I C D : Addr} {m : Str → Option Value} {s₁ : Shared} {oI oC oD : Obj} {S : List (Addr × Obj) → Prop} {rest : Value → List (Addr × Obj) → Prop} {y : Value} {h' : Heap} {tk : Nat} {news : List (Addr × Obj)} {p t c : Addr × Obj}
    (F : Fr h₀ L h' m) (N : News h₀ L h' (p :: t :: c :: (I, oI) :: (C, oC) :: (D, oD) :: news)) (off : PyProof.Rows.LCg.Off3 I C D (p :: t :: c :: news)) (hS : S (p :: t :: c :: news)) (r : rest y (p :: t :: c :: news)) :
    PyProof.Rows.LCg.CompEnd h₀ L m s₁ I oI C oC D oD S rest y { s₁ with heap := h', toks := tk } := PyProof.Rows.LCg.CompEnd.intro F N _ (fun p hp => by
  refine List.subset_def.mp ?_ hp
  repeat (first | refine List.cons_subset.mpr ⟨by repeat (first | exact .head _ | refine .tail _ ?_), ?_⟩ | refine List.append_subset.mpr ⟨?_, ?_⟩)
  all_goals first | exact List.nil_subset _ | exact fun _ h => by repeat (first | exact h | exact List.mem_append_left _ h | refine .tail _ ?_ | refine List.mem_append_right _ ?_)) off hS r
theorem off3_ne {I C D a : Addr} {o : Obj} : ∀ {l : List (Addr × Obj)}, PyProof.Rows.LCg.Off3 I C D l → (a, o) ∈ l → a ≠ I ∧ a ≠ C ∧ a ≠ D
  | _ :: _, h, .head _ => h.1
  | _ :: _, h, .tail _ m => off3_ne h.2 m
theorem offI {I C D a : Addr} {o : Obj} {l : List (Addr × Obj)} (h : PyProof.Rows.LCg.Off3 I C D l) (m : (a, o) ∈ l) : a ≠ I := (off3_ne h m).1
theorem offC {I C D a : Addr} {o : Obj} {l : List (Addr × Obj)} (h : PyProof.Rows.LCg.Off3 I C D l) (m : (a, o) ∈ l) : a ≠ C := (off3_ne h m).2.1
theorem offD {I C D a : Addr} {o : Obj} {l : List (Addr × Obj)} (h : PyProof.Rows.LCg.Off3 I C D l) (m : (a, o) ∈ l) : a ≠ D := (off3_ne h m).2.2
local macro_rules | `(tactic| lcg_src) => `(tactic| exact tup_in (by repeat (first | exact .head _ | refine .tail _ ?_)))
theorem pickF1 {h₀ h : Heap} {L : Addr} {f t c l a b d e : Addr × Obj} {r : List (Addr × Obj)} (N : News h₀ L h (f :: t :: c :: l :: a :: b :: d :: e :: r)) : News h₀ L h (t :: c :: f :: l :: a :: r) := fun p hp => N p (by
  refine List.subset_def.mp ?_ hp
  repeat (first | refine List.cons_subset.mpr ⟨by repeat (first | exact .head _ | refine .tail _ ?_), ?_⟩ | refine List.append_subset.mpr ⟨?_, ?_⟩)
  all_goals first | exact List.nil_subset _ | exact fun _ h => by repeat (first | exact h | exact List.mem_append_left _ h | refine .tail _ ?_ | refine List.mem_append_right _ ?_))
theorem pickF2 {h₀ h : Heap} {L : Addr} {f t c b l o a d e : Addr × Obj} {r : List (Addr × Obj)} (N : News h₀ L h (f :: t :: c :: b :: l :: o :: a :: d :: e :: r)) : News h₀ L h (t :: c :: f :: l :: a :: b :: r) := fun p hp => N p (by
  refine List.subset_def.mp ?_ hp
  repeat (first | refine List.cons_subset.mpr ⟨by repeat (first | exact .head _ | refine .tail _ ?_), ?_⟩ | refine List.append_subset.mpr ⟨?_, ?_⟩)
  all_goals first | exact List.nil_subset _ | exact fun _ h => by repeat (first | exact h | exact List.mem_append_left _ h | refine .tail _ ?_ | refine List.mem_append_right _ ?_))
inductive FSpec
  | one (ver b1 l1 : Int)
  | two (ver b1 l1 l2 : Int)
noncomputable def FSpec.Ok : FSpec → Prop
  | .one v b l => verOk v ∧ 0 ≤ b ∧ b < 20 ∧ 0 ≤ l ∧ l < 9
  | .two v b l k => verOk v ∧ 0 ≤ b ∧ b < 20 ∧ 0 ≤ l ∧ l < 9 ∧ 0 ≤ k ∧ k < 9
noncomputable abbrev tupO (xs : Array Value) : Obj := { cls := .type "tuple", data := .seq xs }
noncomputable abbrev lstO (xs : Array Value) (n : Nat) : Obj := W.listOf xs n
inductive FontObj (R : List (Addr × Obj)) : Value → FSpec → Prop
  | one {ft rl r1 : Addr} {ver b1 l1 : Int} {n : Nat} {tv x y z : Tok} (hf : (ft, tupO #[.int ver tv, .ref rl]) ∈ R) (hl : (rl, lstO #[.ref r1] n) ∈ R) (h1 : (r1, tupO #[.str (Str.ofString "cmap") x, .int b1 y, .int l1 z]) ∈ R) : FontObj R (.ref ft) (.one ver b1 l1)
  | two {ft rl r1 r2 : Addr} {ver b1 l1 l2 : Int} {n : Nat} {tv x y z x2 y2 z2 : Tok} (hf : (ft, tupO #[.int ver tv, .ref rl]) ∈ R) (hl : (rl, lstO #[.ref r1, .ref r2] n) ∈ R) (h1 : (r1, tupO #[.str (Str.ofString "cmap") x, .int b1 y, .int l1 z]) ∈ R)
      (h2 : (r2, tupO #[.str (Str.ofString "post") x2, .int (b1 + l1) y2, .int l2 z2]) ∈ R) : FontObj R (.ref ft) (.two ver b1 l1 l2)
theorem FontObj.mono {R R' : List (Addr × Obj)} {v : Value} {f : FSpec} (h : FontObj R v f) (k : ∀ p ∈ R, p ∈ R') : FontObj R' v f := by
  cases h with
  | one a b c => exact .one (k _ a) (k _ b) (k _ c)
  | two a b c d => exact .two (k _ a) (k _ b) (k _ c) (k _ d)
/-- what was made lies off what stood -/
noncomputable def NewOff (R l : List (Addr × Obj)) : Prop := ∀ p ∈ R, ∀ q ∈ l, q.1 ≠ p.1
theorem newoff_nil {l : List (Addr × Obj)} : NewOff [] l := fun _ h => nomatch h
theorem newoff_cons {pa ta ca : Addr} {po to co : Obj} {R l : List (Addr × Obj)} (h1 : @Ne Nat ta pa) (h2 : @Ne Nat ca pa) (h3 : ∀ q ∈ l, q.1 ≠ pa) (t : NewOff R ((ta, to) :: (ca, co) :: l)) : NewOff ((pa, po) :: R) ((ta, to) :: (ca, co) :: l) := fun x hx q hq => by
  rcases List.mem_cons.mp hx with rfl | hx
  · rcases List.mem_cons.mp hq with rfl | hq
    · exact h1
    rcases List.mem_cons.mp hq with rfl | hq
    · exact h2
    exact h3 q hq
  · exact t x hx q hq
section
variable {tp c : Addr} {vs : List Value} {i : Int} {ti : Tok} {n n' : Nat} {rest : List (Addr × Obj)} {h₀ : Heap} {L : Addr} {m : Str → Option Value} {Q : Value → Heap → Nat → Prop} {ft rl r1 r2 : Addr} {ver b1 l1 l2 : Int} {tv x y z x2 y2 z2 : Tok} {a d e : Addr × Obj} {h' : Heap} {tk' : Nat} {i' : Int} {t2 : Tok} {n2 nl : Nat}
noncomputable def FontRet (h₀ : Heap) (L : Addr) (m : Str → Option Value) (tp c : Addr) (vs : List Value) (i : Int) (ti : Tok) (n n' : Nat) (rest : List (Addr × Obj)) (Q : Value → Heap → Nat → Prop) : Prop :=
  ∀ v f R i' t2 n2 h' tk', FSpec.Ok f → FontObj R v f → i ≤ i' → i' ≤ i + 6 → NewOff R ((tp, listOf #[.ref c, .int i ti] n) :: (c, listOf vs.toArray n') :: rest) → Fr h₀ L h' m → News h₀ L h' ((tp, listOf #[.ref c, .int i' t2] n2) :: (c, listOf vs.toArray n') :: (R ++ rest)) → Q v h' tk'
theorem font_end1 (hret : FontRet h₀ L m tp c vs i ti n n' rest Q) (F : Fr h₀ L h' m)
    (N : News h₀ L h' ((ft, tupO #[.int ver tv, .ref rl]) :: (tp, listOf #[.ref c, .int i' t2] n2) :: (c, listOf vs.toArray n') :: (rl, lstO #[.ref r1] nl) :: (r1, tupO #[.str (Str.ofString "cmap") x, .int b1 y, .int l1 z]) :: a :: d :: e :: rest))
    (ok : FSpec.Ok (.one ver b1 l1)) (h1 : i ≤ i') (h2 : i' ≤ i + 6)
    (no : NewOff [(ft, tupO #[.int ver tv, .ref rl]), (rl, lstO #[.ref r1] nl), (r1, tupO #[.str (Str.ofString "cmap") x, .int b1 y, .int l1 z])] ((tp, listOf #[.ref c, .int i ti] n) :: (c, listOf vs.toArray n') :: rest)) : Q (.ref ft) h' tk' :=
  hret _ _ _ _ _ _ _ _ ok (.one (.head _) (.tail _ (.head _)) (.tail _ (.tail _ (.head _)))) h1 h2 no F (pickF1 N)
theorem font_end2 (hret : FontRet h₀ L m tp c vs i ti n n' rest Q) (F : Fr h₀ L h' m)
    (N : News h₀ L h' ((ft, tupO #[.int ver tv, .ref rl]) :: (tp, listOf #[.ref c, .int i' t2] n2) :: (c, listOf vs.toArray n') :: (r2, tupO #[.str (Str.ofString "post") x2, .int (b1 + l1) y2, .int l2 z2]) :: (rl, lstO #[.ref r1, .ref r2] nl) :: a :: (r1, tupO #[.str (Str.ofString "cmap") x, .int b1 y, .int l1 z]) :: d :: e :: rest))
    (ok : FSpec.Ok (.two ver b1 l1 l2)) (h1 : i ≤ i') (h2 : i' ≤ i + 6)
    (no : NewOff [(ft, tupO #[.int ver tv, .ref rl]), (rl, lstO #[.ref r1, .ref r2] nl), (r1, tupO #[.str (Str.ofString "cmap") x, .int b1 y, .int l1 z]), (r2, tupO #[.str (Str.ofString "post") x2, .int (b1 + l1) y2, .int l2 z2])] ((tp, listOf #[.ref c, .int i ti] n) :: (c, listOf vs.toArray n') :: rest)) : Q (.ref ft) h' tk' :=
  hret _ _ _ _ _ _ _ _ ok (.two (.head _) (.tail _ (.head _)) (.tail _ (.tail _ (.head _))) (.tail _ (.tail _ (.tail _ (.head _))))) h1 h2 no F (pickF2 N)
end
theorem ver_at {k : Int} (h0 : 0 ≤ k) (h1 : k < 3) : verOk (([65536, 1330926671, 1953658213] : List Int).getD k.toNat 0) := by
  rcases (by lia : k = 0 ∨ k = 1 ∨ k = 2) with rfl | rfl | rfl
  · exact .inl rfl
  · exact .inr (.inl rfl)
  · exact .inr (.inr rfl)
section
variable {w : World} {mean : ExcName → Option Value} {mg mb : Str → Option Value} {dp un : Nat} {gd : Option (List Code)} {cn : Str} {cs : Scope} {a : Addr} {ccd : Value} {cl : List (Str × Addr)} {outer : List Env} {A₀ : Around} {base h₀ : Heap} {L : Addr} {m : Str → Option Value} {s : Shared} {Q E : Value → Shared → Prop}
set_option maxRecDepth 100000 in
set_option maxHeartbeats 8000000 in
theorem font_c {tp c : Addr} {vs : List Value} {ns : List Int} {i spot : Int} {ti ts : Tok} {n n' : Nat} {rest : List (Addr × Obj)}
  (B : Below A₀ base outer h₀) (F : Fr h₀ L s.heap m) (X : (Mine.hd.heap_39 w.params).In h₀) (N : News h₀ L s.heap ((tp, listOf #[.ref c, .int i ti] n) :: (c, listOf vs.toArray n') :: rest)) (T : Top Mine.hd.view_39 (looseW Mine.hd.view_39 [Str.ofString "ShapeError", Str.ofString "VERSIONS"]) mean mg mb h₀) (hk : cs.kind = .function)
  (off : OwnOff rest [tp]) (hct : @Ne Nat c tp) (hi : IntsAre vs ns) (hn1 : 1 ≤ ns.length) (hn2 : ns.length ≤ 60) (h0 : 0 ≤ i) (h1 : i < 190) (hs0 : 0 ≤ spot) (hs1 : spot < 3)
  (hd : dp + 6 < recursionLimit) (hu : un + 48 < cLine)
  (hret : ∀ v f R i' t2 n2 h' tk', FSpec.Ok f → FontObj R v f → i ≤ i' → i' ≤ i + 6 → NewOff R ((tp, listOf #[.ref c, .int i ti] n) :: (c, listOf vs.toArray n') :: rest) → Fr h₀ L h' m → News h₀ L h' ((tp, listOf #[.ref c, .int i' t2] n2) :: (c, listOf vs.toArray n') :: (R ++ rest)) → Q v { s with heap := h', toks := tk' }) :
  wpAny (model PySem.Challenge.rw_pb0178_01.row.prog w) (ktrTop dp un gd cn cs L a ccd cl outer) (call (.ref 281) [.ref tp, .int spot ts]) Q E s := by
  refine wpAny_call ?_
  k_dflt (refine' code_defC ?k1 ?k2 ?k3 ?k4 ?k5 ?kA ?kF ?kK ?k6 ?k7 ?k8 ?k9 ?kB ?kD ?_ ?c2 ?c3 ?c4; (case kA => exact rfl); (case kF => exact rfl); (case kK => assumption); (case k1 => k_asm); (case k2 => k_asm); (case k3 => k_asm); (case k4 => k_asm); (case k5 => k_asm); (case k6 => k_is); (case k7 => k_is); (case k8 => ktr_room); (case k9 => exact BindsTo.of_eq rfl); (case kB => exact rfl); (case kD => decide +kernel); (case c2 => exact rfl); (case c3 => exact rfl); (case c4 => exact rfl); k_whole; intro g' L' h' tk' cells' FG' F' N' Y' B' X' T' l1; (try k_lt l1); k_cells Y'; (try simp only [List.cons_append, List.nil_append] at N'); (try dsimp only); (try k_fold))
  (repeat' (first | ((k_here; k_dflt ((with_reducible show wpAny _ _ (PySem.call (Value.ref 271) _ _) _ _ _); (refine' draw_c (by k_asm) (by k_asm) (by k_asm) (by (first | k_asm | exact rot1 (by assumption) | exact rot2 (by assumption) | exact rot3 (by assumption) | exact rot4 (by assumption) | exact rot5 (by assumption) | exact rot6 (by assumption) | exact rot7 (by assumption) | exact rot8 (by assumption))) (by k_asm) (by first | exact rfl | assumption) (by ((repeat (refine own_cons (by (simp only [AllNe, and_true]; (repeat' apply And.intro) <;> first | exact offI (by assumption) (by repeat (first | exact .head _ | refine .tail _ ?_)) | exact offC (by assumption) (by repeat (first | exact .head _ | refine .tail _ ?_)) | exact offD (by assumption) (by repeat (first | exact .head _ | refine .tail _ ?_)) | (apply Ne.symm; first | exact offI (by assumption) (by repeat (first | exact .head _ | refine .tail _ ?_)) | exact offC (by assumption) (by repeat (first | exact .head _ | refine .tail _ ?_)) | exact offD (by assumption) (by repeat (first | exact .head _ | refine .tail _ ?_))) | lia)) ?_)); ktr_rel)) (by first | assumption | lia) (by assumption) (by cb_room) (by cb_room) (by cb_room) (by cb_room) (by cb_room) (by cb_room) (by ktr_room) (by ktr_units) ?_); intro v9 t9 t8 n9 h9 tk9 b8 b9 F9 N9; (try dsimp only); (try k_fold)))) | ((with_reducible show PyProof.Rows.LCg.CompRest _ _ _ _ _ _ _ _ _ _ _ _ _ _ _ _ _ _ _); (with_unfolding_all (refine PyProof.Rows.LCg.CompRest.succ ?_; intro v' I' oI' C' oC' D' m' h' tk' E' hv' hC' hx' F' N' off' ne'; lcg_open hv'))) | ((with_reducible show CompSrcW _ _ _ _ _ _ _ _ _ _ _ _ _ _); (k_here; k_dflt ((rename Fr _ _ _ _ => fC); (rename News _ _ _ _ => nC); (refine' CompSrcW.mk (iter_tuple (tup_in (by repeat (first | exact .head _ | refine .tail _ ?_))) rfl fC nC) fC nC (by first | exact (by decide : 1 ≤ sizeLine) | exact (by decide : 2 ≤ sizeLine)) (tup_in (by repeat (first | exact .head _ | refine .tail _ ?_))) ?_); clear fC nC; intro g'))) | ((with_reducible show wpAny _ _ (exec (Stmt.Assign _ (Expr.ListComp _ _ _ _) _) _) _ _ _); (k_here; k_dflt (refine Assign_ListComp_W (F₀ := by k_asm) rfl (by with_unfolding_all rfl) (by with_unfolding_all rfl) (by decide) (by rfl) (by decide) (by rfl) (by rfl) (by rfl) (by intro _; with_unfolding_all rfl) ?_))) | ((with_reducible show PyProof.Rows.LCg.CompEnd _ _ _ _ _ _ _ _ _ _ _ _ _ _); k_dflt (refine cendT (by assumption) (by assumption) (by ((rename PyProof.Rows.LCg.Off3 _ _ _ _ => hOf); (repeat (refine And.intro (And.intro (by ((try dsimp only); first | exact offI hOf (by repeat (first | exact .head _ | refine .tail _ ?_)) | exact offC hOf (by repeat (first | exact .head _ | refine .tail _ ?_)) | exact offD hOf (by repeat (first | exact .head _ | refine .tail _ ?_)) | exact ne9 | exact ne8 | lia)) (And.intro (by ((try dsimp only); first | exact offI hOf (by repeat (first | exact .head _ | refine .tail _ ?_)) | exact offC hOf (by repeat (first | exact .head _ | refine .tail _ ?_)) | exact offD hOf (by repeat (first | exact .head _ | refine .tail _ ?_)) | exact ne9 | exact ne8 | lia)) (by ((try dsimp only); first | exact offI hOf (by repeat (first | exact .head _ | refine .tail _ ?_)) | exact offC hOf (by repeat (first | exact .head _ | refine .tail _ ?_)) | exact offD hOf (by repeat (first | exact .head _ | refine .tail _ ?_)) | exact ne9 | exact ne8 | lia)))) ?_)); first | exact hOf | exact hOf.2 | exact hOf.2.2 | exact hOf.2.2.2 | exact hOf.2.2.2.2 | exact hOf.2.2.2.2.2 | exact hOf.2.2.2.2.2.2 | exact hOf.2.2.2.2.2.2.2)) (by lcg_src) ?_)) | (k_unfold; (try dsimp only)) | (k_unmd; k_unfold; (try dsimp only)) | (k_end; wrow_close) | walk1 | (dsimp only; walk1) | (leave1; walk_say "STEP leave1"; try dsimp only) | fail "no step"))
  (rename (_ : Int) < 2 => b9)
  rcases split01 (by assumption) b9 with rfl | rfl
  · (rename Fr _ _ _ _ => fS)
    (rename News _ _ _ _ => nS)
    (with_unfolding_all refine' slice_tup1 (s := ⟨_, _, _, _, _⟩) fS nS ?hm ?_ ?hs ?hg; (case hm => repeat (first | exact .head _ | refine .tail _ ?_)); (case hs => with_unfolding_all rfl); (case hg => intro _; with_unfolding_all rfl); intro D8 h8 f8 n8 l8; k_lt l8)
    clear fS nS
    (repeat' (first | ((k_here; k_dflt ((with_reducible show wpAny _ _ (PySem.call (Value.ref 271) _ _) _ _ _); (refine' draw_c (by k_asm) (by k_asm) (by k_asm) (by (first | k_asm | exact rot1 (by assumption) | exact rot2 (by assumption) | exact rot3 (by assumption) | exact rot4 (by assumption) | exact rot5 (by assumption) | exact rot6 (by assumption) | exact rot7 (by assumption) | exact rot8 (by assumption))) (by k_asm) (by first | exact rfl | assumption) (by ((repeat (refine own_cons (by (simp only [AllNe, and_true]; (repeat' apply And.intro) <;> first | exact offI (by assumption) (by repeat (first | exact .head _ | refine .tail _ ?_)) | exact offC (by assumption) (by repeat (first | exact .head _ | refine .tail _ ?_)) | exact offD (by assumption) (by repeat (first | exact .head _ | refine .tail _ ?_)) | (apply Ne.symm; first | exact offI (by assumption) (by repeat (first | exact .head _ | refine .tail _ ?_)) | exact offC (by assumption) (by repeat (first | exact .head _ | refine .tail _ ?_)) | exact offD (by assumption) (by repeat (first | exact .head _ | refine .tail _ ?_))) | lia)) ?_)); ktr_rel)) (by first | assumption | lia) (by assumption) (by cb_room) (by cb_room) (by cb_room) (by cb_room) (by cb_room) (by cb_room) (by ktr_room) (by ktr_units) ?_); intro v9 t9 t8 n9 h9 tk9 b8 b9 F9 N9; (try dsimp only); (try k_fold)))) | ((with_reducible show PyProof.Rows.LCg.CompRest _ _ _ _ _ _ _ _ _ _ _ _ _ _ _ _ _ _ _); (with_unfolding_all (refine PyProof.Rows.LCg.CompRest.succ ?_; intro v' I' oI' C' oC' D' m' h' tk' E' hv' hC' hx' F' N' off' ne'; lcg_open hv'))) | ((with_reducible show CompSrcW _ _ _ _ _ _ _ _ _ _ _ _ _ _); (k_here; k_dflt ((rename Fr _ _ _ _ => fC); (rename News _ _ _ _ => nC); (refine' CompSrcW.mk (iter_tuple (tup_in (by repeat (first | exact .head _ | refine .tail _ ?_))) rfl fC nC) fC nC (by first | exact (by decide : 1 ≤ sizeLine) | exact (by decide : 2 ≤ sizeLine)) (tup_in (by repeat (first | exact .head _ | refine .tail _ ?_))) ?_); clear fC nC; intro g'))) | ((with_reducible show wpAny _ _ (exec (Stmt.Assign _ (Expr.ListComp _ _ _ _) _) _) _ _ _); (k_here; k_dflt (refine Assign_ListComp_W (F₀ := by k_asm) rfl (by with_unfolding_all rfl) (by with_unfolding_all rfl) (by decide) (by rfl) (by decide) (by rfl) (by rfl) (by rfl) (by intro _; with_unfolding_all rfl) ?_))) | ((with_reducible show PyProof.Rows.LCg.CompEnd _ _ _ _ _ _ _ _ _ _ _ _ _ _); k_dflt (refine cendT (by assumption) (by assumption) (by ((rename PyProof.Rows.LCg.Off3 _ _ _ _ => hOf); (repeat (refine And.intro (And.intro (by ((try dsimp only); first | exact offI hOf (by repeat (first | exact .head _ | refine .tail _ ?_)) | exact offC hOf (by repeat (first | exact .head _ | refine .tail _ ?_)) | exact offD hOf (by repeat (first | exact .head _ | refine .tail _ ?_)) | exact ne9 | exact ne8 | lia)) (And.intro (by ((try dsimp only); first | exact offI hOf (by repeat (first | exact .head _ | refine .tail _ ?_)) | exact offC hOf (by repeat (first | exact .head _ | refine .tail _ ?_)) | exact offD hOf (by repeat (first | exact .head _ | refine .tail _ ?_)) | exact ne9 | exact ne8 | lia)) (by ((try dsimp only); first | exact offI hOf (by repeat (first | exact .head _ | refine .tail _ ?_)) | exact offC hOf (by repeat (first | exact .head _ | refine .tail _ ?_)) | exact offD hOf (by repeat (first | exact .head _ | refine .tail _ ?_)) | exact ne9 | exact ne8 | lia)))) ?_)); first | exact hOf | exact hOf.2 | exact hOf.2.2 | exact hOf.2.2.2 | exact hOf.2.2.2.2 | exact hOf.2.2.2.2.2 | exact hOf.2.2.2.2.2.2 | exact hOf.2.2.2.2.2.2.2)) (by lcg_src) ?_)) | (k_unfold; (try dsimp only)) | (k_unmd; k_unfold; (try dsimp only)) | (k_end; wrow_close) | walk1 | (dsimp only; walk1) | (leave1; walk_say "STEP leave1"; try dsimp only) | fail "no step"))
    (rename News _ _ _ _ => kN)
    (rename Fr _ _ _ _ => kF)
    exact font_end1 (Q := fun v h' tk' => Q v { s with heap := h', toks := tk' }) hret kF kN ⟨ver_at (by assumption) (by assumption), by lia, by lia, by lia, by lia⟩ (by lia) (by lia) (by repeat (first | exact newoff_nil | refine newoff_cons (by first | exact ne9 | exact ne8 | lia) (by first | exact ne9 | exact ne8 | lia) (by k_all) ?_))
  · (rename Fr _ _ _ _ => fS)
    (rename News _ _ _ _ => nS)
    (with_unfolding_all refine' slice_tup2 (s := ⟨_, _, _, _, _⟩) fS nS ?hm ?_ ?hs ?hg; (case hm => repeat (first | exact .head _ | refine .tail _ ?_)); (case hs => with_unfolding_all rfl); (case hg => intro _; with_unfolding_all rfl); intro h8 f8 n8)
    clear fS nS
    (refine' CompSrcW.mk (iter_tuple (tup_in ?M) rfl f8 n8) f8 n8 ?I (tup_in ?M2) ?K); (case M => repeat (first | exact .head _ | refine .tail _ ?_)); (case M2 => repeat (first | exact .head _ | refine .tail _ ?_)); (case I => first | exact (by decide : 1 ≤ sizeLine) | exact (by decide : 2 ≤ sizeLine)); clear f8 n8; intro g'
    (repeat' (first | ((k_here; k_dflt ((with_reducible show wpAny _ _ (PySem.call (Value.ref 271) _ _) _ _ _); (refine' draw_c (by k_asm) (by k_asm) (by k_asm) (by (first | k_asm | exact rot1 (by assumption) | exact rot2 (by assumption) | exact rot3 (by assumption) | exact rot4 (by assumption) | exact rot5 (by assumption) | exact rot6 (by assumption) | exact rot7 (by assumption) | exact rot8 (by assumption))) (by k_asm) (by first | exact rfl | assumption) (by ((repeat (refine own_cons (by (simp only [AllNe, and_true]; (repeat' apply And.intro) <;> first | exact offI (by assumption) (by repeat (first | exact .head _ | refine .tail _ ?_)) | exact offC (by assumption) (by repeat (first | exact .head _ | refine .tail _ ?_)) | exact offD (by assumption) (by repeat (first | exact .head _ | refine .tail _ ?_)) | (apply Ne.symm; first | exact offI (by assumption) (by repeat (first | exact .head _ | refine .tail _ ?_)) | exact offC (by assumption) (by repeat (first | exact .head _ | refine .tail _ ?_)) | exact offD (by assumption) (by repeat (first | exact .head _ | refine .tail _ ?_))) | lia)) ?_)); ktr_rel)) (by first | assumption | lia) (by assumption) (by cb_room) (by cb_room) (by cb_room) (by cb_room) (by cb_room) (by cb_room) (by ktr_room) (by ktr_units) ?_); intro v9 t9 t8 n9 h9 tk9 b8 b9 F9 N9; (try dsimp only); (try k_fold)))) | ((with_reducible show PyProof.Rows.LCg.CompRest _ _ _ _ _ _ _ _ _ _ _ _ _ _ _ _ _ _ _); (with_unfolding_all (refine PyProof.Rows.LCg.CompRest.succ ?_; intro v' I' oI' C' oC' D' m' h' tk' E' hv' hC' hx' F' N' off' ne'; lcg_open hv'))) | ((with_reducible show CompSrcW _ _ _ _ _ _ _ _ _ _ _ _ _ _); (k_here; k_dflt ((rename Fr _ _ _ _ => fC); (rename News _ _ _ _ => nC); (refine' CompSrcW.mk (iter_tuple (tup_in (by repeat (first | exact .head _ | refine .tail _ ?_))) rfl fC nC) fC nC (by first | exact (by decide : 1 ≤ sizeLine) | exact (by decide : 2 ≤ sizeLine)) (tup_in (by repeat (first | exact .head _ | refine .tail _ ?_))) ?_); clear fC nC; intro g'))) | ((with_reducible show wpAny _ _ (exec (Stmt.Assign _ (Expr.ListComp _ _ _ _) _) _) _ _ _); (k_here; k_dflt (refine Assign_ListComp_W (F₀ := by k_asm) rfl (by with_unfolding_all rfl) (by with_unfolding_all rfl) (by decide) (by rfl) (by decide) (by rfl) (by rfl) (by rfl) (by intro _; with_unfolding_all rfl) ?_))) | ((with_reducible show PyProof.Rows.LCg.CompEnd _ _ _ _ _ _ _ _ _ _ _ _ _ _); k_dflt (refine cendT (by assumption) (by assumption) (by ((rename PyProof.Rows.LCg.Off3 _ _ _ _ => hOf); (repeat (refine And.intro (And.intro (by ((try dsimp only); first | exact offI hOf (by repeat (first | exact .head _ | refine .tail _ ?_)) | exact offC hOf (by repeat (first | exact .head _ | refine .tail _ ?_)) | exact offD hOf (by repeat (first | exact .head _ | refine .tail _ ?_)) | exact ne9 | exact ne8 | lia)) (And.intro (by ((try dsimp only); first | exact offI hOf (by repeat (first | exact .head _ | refine .tail _ ?_)) | exact offC hOf (by repeat (first | exact .head _ | refine .tail _ ?_)) | exact offD hOf (by repeat (first | exact .head _ | refine .tail _ ?_)) | exact ne9 | exact ne8 | lia)) (by ((try dsimp only); first | exact offI hOf (by repeat (first | exact .head _ | refine .tail _ ?_)) | exact offC hOf (by repeat (first | exact .head _ | refine .tail _ ?_)) | exact offD hOf (by repeat (first | exact .head _ | refine .tail _ ?_)) | exact ne9 | exact ne8 | lia)))) ?_)); first | exact hOf | exact hOf.2 | exact hOf.2.2 | exact hOf.2.2.2 | exact hOf.2.2.2.2 | exact hOf.2.2.2.2.2 | exact hOf.2.2.2.2.2.2 | exact hOf.2.2.2.2.2.2.2)) (by lcg_src) ?_)) | (k_unfold; (try dsimp only)) | (k_unmd; k_unfold; (try dsimp only)) | (k_end; wrow_close) | walk1 | (dsimp only; walk1) | (leave1; walk_say "STEP leave1"; try dsimp only) | fail "no step"))
    (rename News _ _ _ _ => kN)
    (rename Fr _ _ _ _ => kF)
    exact font_end2 (Q := fun v h' tk' => Q v { s with heap := h', toks := tk' }) hret kF kN ⟨ver_at (by assumption) (by assumption), by lia, by lia, by lia, by lia, by lia, by lia⟩ (by lia) (by lia) (by repeat (first | exact newoff_nil | refine newoff_cons (by first | exact ne9 | exact ne8 | lia) (by first | exact ne9 | exact ne8 | lia) (by k_all) ?_))
end
end
section
theorem part17 : True := by
  w_top off
  trivial
theorem fd (num : Int) (k : Nat) : (num.fdiv ((256 : Int) ^ k)).fmod 256 = num / ((256 : Int) ^ k) % 256 := by
  rw [Int.fdiv_eq_ediv_of_nonneg _ (Int.le_of_lt (Int.pow_pos (by decide))), Int.fmod_eq_emod_of_nonneg _ (by decide)]
theorem bInts4 {a b c d : Int} (ha : ((a.toNat.toUInt8.toNat : Nat) : Int) = a) (hb : ((b.toNat.toUInt8.toNat : Nat) : Int) = b) (hc : ((c.toNat.toUInt8.toNat : Nat) : Int) = c) (hd : ((d.toNat.toUInt8.toNat : Nat) : Int) = d) :
    KBw.bInts #[a.toNat.toUInt8, b.toNat.toUInt8, c.toNat.toUInt8, d.toNat.toUInt8] = [a, b, c, d] := by
  show [((a.toNat.toUInt8.toNat : Nat) : Int), ((b.toNat.toUInt8.toNat : Nat) : Int), ((c.toNat.toUInt8.toNat : Nat) : Int), ((d.toNat.toUInt8.toNat : Nat) : Int)] = _
  rw [ha, hb, hc, hd]
theorem bInts2 {a b : Int} (ha : ((a.toNat.toUInt8.toNat : Nat) : Int) = a) (hb : ((b.toNat.toUInt8.toNat : Nat) : Int) = b) :
    KBw.bInts #[a.toNat.toUInt8, b.toNat.toUInt8] = [a, b] := by
  show [((a.toNat.toUInt8.toNat : Nat) : Int), ((b.toNat.toUInt8.toNat : Nat) : Int)] = _
  rw [ha, hb]
theorem oc4_e (num : Int) : [(num.fdiv (256 ^ (4 - 1 + ((0 : Nat) : Int) * -1).toNat)).fmod 256, (num.fdiv (256 ^ (4 - 1 + ((0 + 1 : Nat) : Int) * -1).toNat)).fmod 256, (num.fdiv (256 ^ (4 - 1 + ((0 + 1 + 1 : Nat) : Int) * -1).toNat)).fmod 256, (num.fdiv (256 ^ (4 - 1 + ((0 + 1 + 1 + 1 : Nat) : Int) * -1).toNat)).fmod 256] = [num / 16777216 % 256, num / 65536 % 256, num / 256 % 256, num % 256] := by
  rw [fd, fd, fd, fd]
  have e0 : (4 - 1 + ((0 : Nat) : Int) * -1).toNat = 3 := by decide
  have e1 : (4 - 1 + ((0 + 1 : Nat) : Int) * -1).toNat = 2 := by decide
  have e2 : (4 - 1 + ((0 + 1 + 1 : Nat) : Int) * -1).toNat = 1 := by decide
  have e3 : (4 - 1 + ((0 + 1 + 1 + 1 : Nat) : Int) * -1).toNat = 0 := by decide
  rw [e0, e1, e2, e3]
  simp
theorem oc2_e (num : Int) : [(num.fdiv (256 ^ (2 - 1 + ((0 : Nat) : Int) * -1).toNat)).fmod 256, (num.fdiv (256 ^ (2 - 1 + ((0 + 1 : Nat) : Int) * -1).toNat)).fmod 256] = [num / 256 % 256, num % 256] := by
  rw [fd, fd]
  have e0 : (2 - 1 + ((0 : Nat) : Int) * -1).toNat = 1 := by decide
  have e1 : (2 - 1 + ((0 + 1 : Nat) : Int) * -1).toNat = 0 := by decide
  rw [e0, e1]
  simp
section
variable {w : World} {mean : ExcName → Option Value} {mg mb : Str → Option Value} {dp un : Nat} {gd : Option (List Code)} {cn : Str} {cs : Scope} {a : Addr} {ccd : Value} {cl : List (Str × Addr)} {outer : List Env} {A₀ : Around} {base h₀ : Heap} {L : Addr} {m : Str → Option Value} {s : Shared} {Q E : Value → Shared → Prop}
set_option maxRecDepth 100000 in
set_option maxHeartbeats 8000000 in
theorem oc4_c {num : Int} {t1 t2 : Tok} {news : List (Addr × Obj)}
  (B : Below A₀ base outer h₀) (F : Fr h₀ L s.heap m) (X : (Mine.hd.heap_39 w.params).In h₀) (N : News h₀ L s.heap (news)) (T : Top Mine.hd.view_39 (looseW Mine.hd.view_39 [Str.ofString "ShapeError", Str.ofString "VERSIONS"]) mean mg mb h₀) (hk : cs.kind = .function)
  (h0 : 0 ≤ num) (h1 : num < 4294967296)
  (hd : dp + 3 < recursionLimit) (hu : un + 24 < cLine)
  (hret : ∀ d t h' tk', KBw.bInts d = [num / 16777216 % 256, num / 65536 % 256, num / 256 % 256, num % 256] → Fr h₀ L h' m → News h₀ L h' news → Q (.bytes d t) { s with heap := h', toks := tk' }) :
  wpAny (model PySem.Challenge.rw_pb0178_01.row.prog w) (ktrTop dp un gd cn cs L a ccd cl outer) (call (.ref 276) [.int num t1, .int 4 t2]) Q E s := by
  refine wpAny_call ?_
  k_dflt (refine' code_defC ?k1 ?k2 ?k3 ?k4 ?k5 ?kA ?kF ?kK ?k6 ?k7 ?k8 ?k9 ?kB ?kD ?_ ?c2 ?c3 ?c4; (case kA => exact rfl); (case kF => exact rfl); (case kK => assumption); (case k1 => k_asm); (case k2 => k_asm); (case k3 => k_asm); (case k4 => k_asm); (case k5 => k_asm); (case k6 => k_is); (case k7 => k_is); (case k8 => ktr_room); (case k9 => exact BindsTo.of_eq rfl); (case kB => exact rfl); (case kD => decide +kernel); (case c2 => exact rfl); (case c3 => exact rfl); (case c4 => exact rfl); k_whole; intro g' L' h' tk' cells' FG' F' N' Y' B' X' T' l1; (try k_lt l1); k_cells Y'; (try simp only [List.cons_append, List.nil_append] at N'); (try dsimp only); (try k_fold))
  (repeat' (first | ((with_reducible show PyProof.Rows.LCg.CompEnd _ _ _ _ _ _ _ _ _ _ _ _ _ _); k_dflt (refine PyProof.Rows.LCg.CompEnd.intro (by assumption) (by assumption) _ (fun p hp => hp) (by assumption) trivial ?_)) | ((with_reducible show PyProof.Rows.LCg.CompRest _ _ _ _ _ _ _ _ _ _ _ _ _ _ _ _ _ _ _); (with_unfolding_all (refine PyProof.Rows.LCg.CompRest.succ ?_; intro v' I' oI' C' oC' D' m' h' tk' E' hv' hC' hx' F' N' off' ne'; (obtain ⟨t9', hv9'⟩ := hv'); subst hv9'))) | ((with_reducible show CompSrcW _ _ _ _ _ _ _ _ _ _ _ _ _ _); (k_here; k_dflt ((refine' CompSrcW.mk (iter_range (n := 2) (by assumption) (by decide) (by decide) (by rfl) (by k_asm) (by k_asm)) (by k_asm) (by k_asm) (by decide) (by trivial) ?_); intro g'))) | ((with_reducible show CompSrcW _ _ _ _ _ _ _ _ _ _ _ _ _ _); (k_here; k_dflt ((refine' CompSrcW.mk (iter_range (n := 4) (by assumption) (by decide) (by decide) (by rfl) (by k_asm) (by k_asm)) (by k_asm) (by k_asm) (by decide) (by trivial) ?_); intro g'))) | ((with_reducible show wpAny _ _ (eval (Expr.ListComp _ _ _ _) _) _ _ _); (k_here; k_dflt (refine ListComp_W (F₀ := by k_asm) (by with_unfolding_all rfl) (by decide) (by rfl) (by decide) (by rfl) (by intro _; with_unfolding_all rfl) ?_))) | (k_unfold; (try dsimp only)) | (k_end; wrow_close) | walk1 | (dsimp only; walk1) | (leave1; walk_say "STEP leave1"; try dsimp only) | fail "no step"))
  all_goals exact hret _ _ _ _ ((bInts4 (by assumption) (by assumption) (by assumption) (by assumption)).trans (oc4_e num)) (by assumption) (fun p hp => (by assumption : News h₀ L _ _) p (.tail _ (by first | exact .tail _ hp | exact hp)))
set_option maxRecDepth 100000 in
set_option maxHeartbeats 8000000 in
theorem oc2_c {num : Int} {t1 t2 : Tok} {news : List (Addr × Obj)}
  (B : Below A₀ base outer h₀) (F : Fr h₀ L s.heap m) (X : (Mine.hd.heap_39 w.params).In h₀) (N : News h₀ L s.heap (news)) (T : Top Mine.hd.view_39 (looseW Mine.hd.view_39 [Str.ofString "ShapeError", Str.ofString "VERSIONS"]) mean mg mb h₀) (hk : cs.kind = .function)
  (h0 : 0 ≤ num) (h1 : num < 65536)
  (hd : dp + 3 < recursionLimit) (hu : un + 24 < cLine)
  (hret : ∀ d t h' tk', KBw.bInts d = [num / 256 % 256, num % 256] → Fr h₀ L h' m → News h₀ L h' news → Q (.bytes d t) { s with heap := h', toks := tk' }) :
  wpAny (model PySem.Challenge.rw_pb0178_01.row.prog w) (ktrTop dp un gd cn cs L a ccd cl outer) (call (.ref 276) [.int num t1, .int 2 t2]) Q E s := by
  refine wpAny_call ?_
  k_dflt (refine' code_defC ?k1 ?k2 ?k3 ?k4 ?k5 ?kA ?kF ?kK ?k6 ?k7 ?k8 ?k9 ?kB ?kD ?_ ?c2 ?c3 ?c4; (case kA => exact rfl); (case kF => exact rfl); (case kK => assumption); (case k1 => k_asm); (case k2 => k_asm); (case k3 => k_asm); (case k4 => k_asm); (case k5 => k_asm); (case k6 => k_is); (case k7 => k_is); (case k8 => ktr_room); (case k9 => exact BindsTo.of_eq rfl); (case kB => exact rfl); (case kD => decide +kernel); (case c2 => exact rfl); (case c3 => exact rfl); (case c4 => exact rfl); k_whole; intro g' L' h' tk' cells' FG' F' N' Y' B' X' T' l1; (try k_lt l1); k_cells Y'; (try simp only [List.cons_append, List.nil_append] at N'); (try dsimp only); (try k_fold))
  (repeat' (first | ((with_reducible show PyProof.Rows.LCg.CompEnd _ _ _ _ _ _ _ _ _ _ _ _ _ _); k_dflt (refine PyProof.Rows.LCg.CompEnd.intro (by assumption) (by assumption) _ (fun p hp => hp) (by assumption) trivial ?_)) | ((with_reducible show PyProof.Rows.LCg.CompRest _ _ _ _ _ _ _ _ _ _ _ _ _ _ _ _ _ _ _); (with_unfolding_all (refine PyProof.Rows.LCg.CompRest.succ ?_; intro v' I' oI' C' oC' D' m' h' tk' E' hv' hC' hx' F' N' off' ne'; (obtain ⟨t9', hv9'⟩ := hv'); subst hv9'))) | ((with_reducible show CompSrcW _ _ _ _ _ _ _ _ _ _ _ _ _ _); (k_here; k_dflt ((refine' CompSrcW.mk (iter_range (n := 2) (by assumption) (by decide) (by decide) (by rfl) (by k_asm) (by k_asm)) (by k_asm) (by k_asm) (by decide) (by trivial) ?_); intro g'))) | ((with_reducible show CompSrcW _ _ _ _ _ _ _ _ _ _ _ _ _ _); (k_here; k_dflt ((refine' CompSrcW.mk (iter_range (n := 4) (by assumption) (by decide) (by decide) (by rfl) (by k_asm) (by k_asm)) (by k_asm) (by k_asm) (by decide) (by trivial) ?_); intro g'))) | ((with_reducible show wpAny _ _ (eval (Expr.ListComp _ _ _ _) _) _ _ _); (k_here; k_dflt (refine ListComp_W (F₀ := by k_asm) (by with_unfolding_all rfl) (by decide) (by rfl) (by decide) (by rfl) (by intro _; with_unfolding_all rfl) ?_))) | (k_unfold; (try dsimp only)) | (k_end; wrow_close) | walk1 | (dsimp only; walk1) | (leave1; walk_say "STEP leave1"; try dsimp only) | fail "no step"))
  all_goals exact hret _ _ _ _ ((bInts2 (by assumption) (by assumption)).trans (oc2_e num)) (by assumption) (fun p hp => (by assumption : News h₀ L _ _) p (.tail _ (by first | exact .tail _ hp | exact hp)))
end
end
section
/-- the law's body, its scope, its cells: taken out of the program -/
noncomputable def lawDef : List Stmt × Scope := match PySem.Challenge.rw_pb0178_01.row.prog.main.body.getLast? with
  | some (.FunctionDef _ _ body _ _ _ sc _ _ _) => (body, sc)
  | _ => ([], default)
noncomputable def lawB : List Stmt := lawDef.1
noncomputable def lawSc : Scope := lawDef.2
noncomputable abbrev lawN : PySem.Str := Str.ofString "law"
noncomputable abbrev lawCl (L : Addr) : List (PySem.Str × Addr) := cellsFrom (L + 1) lawSc.names []
theorem lawB_len : lawB.length = 20 := by kernel_rfl
theorem lawCl_eq (L : Addr) : lawCl L = [(Str.ofString "places", L + 1 + 1 + 1 + 1), (Str.ofString "pool", L + 1 + 1 + 1), (Str.ofString "fonts", L + 1 + 1), (Str.ofString "tape", L + 1)] := by kernel_rfl
theorem lawSc_fn : lawSc.kind = .function := by kernel_rfl
noncomputable def lawS (k : Nat) : Stmt := lawB.getD k (.Pass default)
/-- the while's test and body, the inner for's body -/
noncomputable def lawW (k : Nat) : Stmt := match lawS 9 with
  | .While _ body _ _ => body.getD k (.Pass default)
  | _ => .Pass default
end
section
open PySem PySem.W PyProof.Rows PySem.Calls PyProof.Rows.LCg
section
variable {prog : Program} {w : World} {A : Around} {E : Value → Shared → Prop} {s : Shared} {h₀ : Heap} {L : Addr} {m : PySem.Str → Option Value} {news : List (Addr × Obj)} {env : Env}
theorem len_memL {Q : Value → Shared → Prop} {l : Addr} {vs : Array Value} {n : Nat} (N : News h₀ L s.heap news) (hm : (l, W.listOf vs n) ∈ news) (hz : vs.size ≤ 1000)
    (h : Q (.int (vs.size : Int) (s.toks + 1)) { s with toks := s.toks + 1 + 1 }) : wpAny (model prog w) A (call (.builtin "len") [.ref l]) Q E s :=
  len_list (items := vs) ⟨_, N.get hm, rfl, n, rfl⟩ (by have := hz; lia) h
theorem upd_news {h h' : Heap} {cc D : Addr} {oD o o' : Obj} {g : Obj → List (Addr × Obj)} (U : UpdF cc o news g) (hD : D ≠ cc) (N : News h₀ L h ((D, oD) :: news)) (hs : Heap.SameBut cc h h') (ho : h'.get? cc = some o') : News h₀ L h' ((D, oD) :: g o') := by
  obtain ⟨pre, post, rfl, hg, h1, h2⟩ := U.split
  intro p hp
  rw [hg] at hp
  rcases List.mem_cons.mp hp with rfl | hp
  · exact ⟨hs.extBut _ _ hD (N _ (.head _)).1, (N _ (.head _)).2⟩
  · rcases List.mem_append.mp hp with hp | hp
    · exact ⟨hs.extBut _ _ (h1 p hp) (N p (.tail _ (List.mem_append_left _ hp))).1, (N p (.tail _ (List.mem_append_left _ hp))).2⟩
    · rcases List.mem_cons.mp hp with rfl | hp
      · exact ⟨ho, (N (cc, o) (.tail _ (List.mem_append_right _ (.head _)))).2⟩
      · exact ⟨hs.extBut _ _ (h2 p hp) (N p (.tail _ (List.mem_append_right _ (.tail _ hp)))).1, (N p (.tail _ (List.mem_append_right _ (.tail _ hp)))).2⟩
theorem upd_mem {cc : Addr} {o : Obj} {g : Obj → List (Addr × Obj)} (U : UpdF cc o news g) : (cc, o) ∈ news := by
  obtain ⟨pre, post, rfl, _⟩ := U.split
  exact List.mem_append_right _ (.head _)
theorem upd_addr {cc : Addr} {o o' : Obj} {g : Obj → List (Addr × Obj)} (U : UpdF cc o news g) : ∀ p ∈ g o', ∃ q ∈ news, q.1 = p.1 := by
  obtain ⟨pre, post, rfl, hg, _⟩ := U.split
  intro p hp
  rw [hg] at hp
  rcases List.mem_append.mp hp with hp | hp
  · exact ⟨p, List.mem_append_left _ hp, rfl⟩
  · rcases List.mem_cons.mp hp with rfl | hp
    · exact ⟨(cc, o), List.mem_append_right _ (.head _), rfl⟩
    · exact ⟨p, List.mem_append_right _ (.tail _ hp), rfl⟩
theorem off1_ne {D : Addr} : ∀ {l : List (Addr × Obj)}, Off1 D l → ∀ p ∈ l, p.1 ≠ D := fun h => ne_off1 h
theorem compEnd_mono {I C D : Addr} {oI oC oD : Obj} {s₁ s₂ : Shared} {S : List (Addr × Obj) → Prop} {r r' : Value → List (Addr × Obj) → Prop} {y : Value} (h : CompEnd h₀ L m s₁ I oI C oC D oD S r y s₂) (k : ∀ news', r y news' → r' y news') : CompEnd h₀ L m s₁ I oI C oC D oD S r' y s₂ :=
  let ⟨h', tk, news', e, F, N, off, hS, hr⟩ := h
  ⟨h', tk, news', e, F, N, off, hS, k _ hr⟩
/-- a comprehension by what holds between its turns -/
theorem compRest_inv {elt : Expr} {x : PySem.Str} {scope : Scope} {cl : List (PySem.Str × Addr)} {S : List (Addr × Obj) → Prop} {P : Nat → Value → Prop} {Fin : List Value → List (Addr × Obj) → Prop} {n : Nat}
    (J : Nat → List Value → List (Addr × Obj) → Prop) (h0 : J 0 [] news)
    (step : ∀ i ys news v I oI C oC D m₂ h tk (E' : Value → Shared → Prop), i < n → J i ys news → P i v → NsObj oC m₂ → m₂ x = some v → Fr h₀ L h m → News h₀ L h ((I, oI) :: (C, oC) :: (D, lst ys) :: news) → Off3 I C D news → ((@Ne Nat I C) ∧ (@Ne Nat I D) ∧ (@Ne Nat C D)) →
      wpAny (model prog w) A (eval elt (compEnvC scope cl C env)) (CompEnd h₀ L m { s with heap := h, toks := tk } I oI C oC D (lst ys) S (fun y news' => J (i + 1) (ys ++ [y]) news')) E' { s with heap := h, toks := tk })
    (fin : ∀ ys news, J n ys news → Fin ys news) : CompRest prog w A h₀ L m env elt x scope cl s S P Fin n 0 [] news := by
  have all : ∀ k i ys news, i + k = n → J i ys news → CompRest prog w A h₀ L m env elt x scope cl s S P Fin k i ys news := by
    intro k
    induction k with
    | zero =>
      intro i ys news e j
      obtain rfl : i = n := by lia
      exact fin ys news j
    | succ k ih =>
      intro i ys news e j
      refine CompRest.succ fun v I oI C oC D m₂ h tk E' hP hC hx F N off ne => ?_
      exact wpAny_mono (step i ys news v I oI C oC D m₂ h tk E' (by lia) j hP hC hx F N off ne) (fun y s₂ hy => compEnd_mono hy fun news' hj => ih (i + 1) _ _ (by lia) hj) fun _ _ e => e
  exact all n 0 [] news (Nat.zero_add n) h0
theorem rl9 : 500 < recursionLimit := by decide
theorem cl9 : 2000 < cLine := by decide
end
theorem nat1 {v : Int} (h : 0 ≤ v) : ∃ k : Nat, (k : Int) = 1 + v := ⟨(1 + v).toNat, by lia⟩
theorem ints_snoc {vs : List Value} {ns : List Int} (h : IntsAre vs ns) (v : Int) (t : Tok) : IntsAre (vs ++ [.int v t]) (ns ++ [v]) := by
  induction h with
  | nil => exact .cons _ _ .nil
  | cons n t _ ih => exact .cons n t ih
theorem rotD {h₀ h : Heap} {L : Addr} {d t c a1 a2 a3 a4 : Addr × Obj} {r : List (Addr × Obj)} (N : News h₀ L h (d :: t :: c :: a1 :: a2 :: a3 :: a4 :: r)) : News h₀ L h (t :: c :: a1 :: a2 :: a3 :: a4 :: d :: r) := fun p hp => N p (by
  refine List.subset_def.mp ?_ hp
  repeat (first | refine List.cons_subset.mpr ⟨by repeat (first | exact .head _ | refine .tail _ ?_), ?_⟩ | refine List.append_subset.mpr ⟨?_, ?_⟩)
  all_goals first | exact List.nil_subset _ | exact fun _ h => by repeat (first | exact h | exact List.mem_append_left _ h | refine .tail _ ?_ | refine List.mem_append_right _ ?_))
theorem in3_back {i k d t c a1 a2 a3 a4 : Addr × Obj} {R : List (Addr × Obj)} : ∀ p ∈ i :: k :: d :: t :: c :: a1 :: a2 :: a3 :: a4 :: R, p ∈ t :: c :: i :: k :: d :: a1 :: a2 :: a3 :: a4 :: R := fun p hp => by
  refine List.subset_def.mp ?_ hp
  repeat (first | refine List.cons_subset.mpr ⟨by repeat (first | exact .head _ | refine .tail _ ?_), ?_⟩ | refine List.append_subset.mpr ⟨?_, ?_⟩)
  all_goals first | exact List.nil_subset _ | exact fun _ h => by repeat (first | exact h | exact List.mem_append_left _ h | refine .tail _ ?_ | refine List.mem_append_right _ ?_)
theorem off3_same {I C D : Addr} {t t' : Addr × Obj} {r : List (Addr × Obj)} (h : Off3 I C D (t :: r)) (e : t'.1 = t.1) : Off3 I C D (t' :: r) := ⟨by rw [e]; exact h.1, h.2⟩
theorem news_drop {h₀ h : Heap} {L : Addr} {d : Addr × Obj} {r : List (Addr × Obj)} (N : News h₀ L h (d :: r)) : News h₀ L h r := fun p hp => N p (.tail _ hp)
theorem ints_of_get : ∀ (vs : List Value) (ns : List Int), vs.length = ns.length → (∀ (j : Nat) v, vs[j]? = some v → ∃ t, v = .int (ns.getD j 0) t) → IntsAre vs ns
  | [], [], _, _ => .nil
  | v :: vs, n :: ns, h, k => by
    obtain ⟨t, rfl⟩ := k 0 v rfl
    exact .cons _ _ (ints_of_get vs ns (by simpa using h) fun j v hv => by simpa using k (j + 1) v (by simpa using hv))
theorem rsz (n : Nat) : Builtin.Range.rangeSize 0 (n : Int) 1 = (n : Int) := by
  simp only [Builtin.Range.rangeSize]
  have h : (1 : Int) > 0 := by decide
  first
    | (simp only [h, if_true]; split <;> lia)
    | (simp; lia)
noncomputable def upTo (n : Nat) : List Int := (List.range n).map fun k : Nat => (k : Int)
theorem upTo_len (n : Nat) : (upTo n).length = n := by simp [upTo]
theorem upTo_get {n j : Nat} (h : j < n) : (upTo n).getD j 0 = (j : Int) := by
  simp [upTo, List.getD_eq_getElem?_getD, h]
noncomputable def be4 (n : Int) : List Int := [n / 16777216 % 256, n / 65536 % 256, n / 256 % 256, n % 256]
noncomputable def be2 (n : Int) : List Int := [n / 256 % 256, n % 256]
noncomputable def rowB (pa : Int) (r : Bool × Int × Int) : List Int := tagCodes r.1 ++ [115, 115, 115, 115] ++ be4 (pa + r.2.1) ++ be4 r.2.2
theorem rowB_len (pa : Int) (r : Bool × Int × Int) : (rowB pa r).length = 16 := by
  obtain ⟨b, x, y⟩ := r
  cases b <;> rfl
theorem rows_len (pa : Int) : ∀ l : List (Bool × Int × Int), (l.flatMap (rowB pa)).length = 16 * l.length
  | [] => rfl
  | r :: l => by rw [List.flatMap_cons, List.length_append, rowB_len, rows_len pa l, List.length_cons]; lia
theorem fr_abs {h₀ h : Heap} {L : Addr} {m : PySem.Str → Option Value} (F : Fr h₀ L h m) : ∃ m₂, m₂ = m ∧ Fr h₀ L h m₂ := ⟨_, rfl, F⟩
/-- what else stands lies off the tape and the frame's cells -/
noncomputable def LawOff (L tp c : Addr) (R : List (Addr × Obj)) : Prop := OwnOff R [tp, c, L + 1, L + 1 + 1, L + 1 + 1 + 1, L + 1 + 1 + 1 + 1]
theorem LawOff.t {L tp c : Addr} {R : List (Addr × Obj)} (h : LawOff L tp c R) : OwnOff R [tp] := own_sub h fun b hb => by rw [List.mem_singleton.mp hb]; exact .head _
theorem off_cell {L tp c : Addr} {R : List (Addr × Obj)} (h : LawOff L tp c R) {k : Addr} (hk : k ∈ [tp, c, L + 1, L + 1 + 1, L + 1 + 1 + 1, L + 1 + 1 + 1 + 1]) : ∀ p ∈ R, p.1 ≠ k := fun p hp => h p hp _ hk
inductive Fonts (R : List (Addr × Obj)) : List Value → List FSpec → Prop
  | nil : Fonts R [] []
  | snoc {vs : List Value} {fs : List FSpec} {v : Value} {f : FSpec} (h : Fonts R vs fs) (i : FontObj R v f) : Fonts R (vs ++ [v]) (fs ++ [f])
theorem Fonts.mono {R R' : List (Addr × Obj)} {vs : List Value} {fs : List FSpec} (h : Fonts R vs fs) (k : ∀ p ∈ R, p ∈ R') : Fonts R' vs fs := by
  induction h with
  | nil => exact .nil
  | snoc _ i ih => exact .snoc ih (i.mono k)
theorem Fonts.len {R : List (Addr × Obj)} {vs : List Value} {fs : List FSpec} (h : Fonts R vs fs) : vs.length = fs.length := by
  induction h with
  | nil => rfl
  | snoc _ _ ih => simp [ih]
end
section
theorem part18 : True := by
  w_top off
  trivial
section
variable {w : World} {mean : ExcName → Option Value} {mg mb : PySem.Str → Option Value} {dp un : Nat} {gd : Option (List Code)} {a : Addr} {ccd : Value} {outer : List Env} {A₀ : Around} {base h₀ : Heap} {L : Addr} {m : PySem.Str → Option Value} {s : Shared} {Q : PySem.Flow → Shared → Prop} {E : Value → Shared → Prop}
set_option maxRecDepth 100000 in
set_option maxHeartbeats 8000000 in
theorem st7 {fl : Addr} {fvs : List Value} {fn : Nat} {o2 : Obj} {R : List (Addr × Obj)}
  (B : Below A₀ base outer h₀) (F : Fr h₀ L s.heap m) (X : (Mine.hd.heap_39 w.params).In h₀) (N : News h₀ L s.heap ((L + 1 + 1, o2) :: R)) (T : Top Mine.hd.view_39 (looseW Mine.hd.view_39 [Str.ofString "ShapeError", Str.ofString "VERSIONS"]) mean mg mb h₀)
  (hd : dp ≤ 310) (hu : un ≤ 1200) (d2 : o2.data = .cell (some (.ref fl))) (mf : (fl, W.listOf fvs.toArray fn) ∈ R) (hf1 : 1 ≤ fvs.length) (hf2 : fvs.length ≤ 3)
  (hret : ∀ lf lvs nl h' tk', IntsAre lvs (upTo fvs.length) → (∀ q ∈ (L + 1 + 1, o2) :: R, q.1 < lf) → Fr h₀ L h' (fun y => if y = Str.ofString "left" then some (.ref lf) else m y) → News h₀ L h' ((lf, W.listOf lvs.toArray nl) :: (L + 1 + 1, o2) :: R) → Q .next { s with heap := h', toks := tk' }) :
  wpAny (model PySem.Challenge.rw_pb0178_01.row.prog w) (ktrTop dp un gd lawN lawSc L a ccd (lawCl L) outer) (exec (lawS 7) (envX lawN lawSc L a ccd (lawCl L))) Q E s := by
  with_unfolding_all (show wpAny _ _ (exec (Stmt.Assign _ _ _) _) _ _ _)
  repeat' (first | ((fail_if_success (with_reducible show wpAny _ _ (PySem.call (Value.type "list") _ _) _ _ _)); (first | ((k_here; (with_reducible show wpAny _ _ (call (Value.builtin "len") [Value.ref _]) _ _ _); k_dflt (refine len_memL (by k_asm) (by repeat (first | assumption | exact .head _ | refine .tail _ ?_)) (by first | lia | (simp only [List.size_toArray]; lia)) ?_))) | ((k_here; (with_reducible show wpAny _ _ (eval (Expr.Name _ _) (envX _ _ _ _ _ _)) _ _ _); k_dflt (refine nameX_L (by k_asm) (by with_reducible assumption) ?_))) | ((with_reducible show wpAny _ _ (PySem.call (Value.type "range") _ _) _ _ _); (k_here; k_dflt ((rename Fr _ _ _ _ => fR'); (rename News _ _ _ _ => nR'); (with_unfolding_all refine range1_rows fR' nR' ?_); intro _ _ _ _ _ _ _ _ _))) | ((k_here; k_dflt ((with_reducible show wpAny _ _ (PySem.call (Value.ref 271) _ _) _ _ _); (refine' draw_c (by k_asm) (by k_asm) (by k_asm) (by (first | k_asm | exact rot1 (by assumption) | exact rot2 (by assumption) | exact rot3 (by assumption) | exact rot4 (by assumption) | exact rot5 (by assumption) | exact rot6 (by assumption) | exact rot7 (by assumption) | exact rot8 (by assumption))) (by k_asm) (by first | exact rfl | assumption) (by ktr_rel) (by first | assumption | lia) (by assumption) (by cb_room) (by cb_room) (by cb_room) (by cb_room) (by cb_room) (by cb_room) (by ktr_room) (by ktr_room) ?_); intro v9 t9 t8 n9 h9 tk9 b8 b9 F9 N9; (try dsimp only); (try k_fold)))) | (k_unfold; (try dsimp only)) | (k_end; wrow_close) | walk1 | (dsimp only; walk1))))
  (rename IsRange _ _ _ _ _ _ _ _ => hIR)
  (rename News _ _ _ _ => nR)
  (rename Fr _ _ _ _ => fR)
  simp only [List.size_toArray] at hIR
  refine call_list_range (n := fvs.length) rfl hIR ?sm ?sz (by lia) ?_
  case sz => exact rsz _
  case sm => exact range_small (n := fvs.length) (rsz _) (by lia) (by lia) (by lia) (by lia) (by decide) (by decide) (by lia)
  intro h2 tk2 acc nl hk hD hac
  have F2 := fR.keeps hk
  have N2 : News h₀ L h2 ((_, W.listOf acc nl) :: (L + 1 + 1, o2) :: R) := fun p hp => by
    rcases List.mem_cons.mp hp with rfl | hp
    · exact ⟨hD, Nat.ne_of_gt fR.ns.lt, next_is_new fR⟩
    · exact ⟨hk _ _ (nR p hp).1, (nR p hp).2⟩
  have lt : ∀ q ∈ (L + 1 + 1, o2) :: R, q.1 < _ := fun q hq => Heap.lt_size (nR q hq).1
  clear nR fR hIR
  (repeat' (first | ((k_here; (with_reducible show wpAny _ _ (call (Value.builtin "len") [Value.ref _]) _ _ _); k_dflt (refine len_memL (by k_asm) (by repeat (first | assumption | exact .head _ | refine .tail _ ?_)) (by first | lia | (simp only [List.size_toArray]; lia)) ?_))) | ((k_here; (with_reducible show wpAny _ _ (eval (Expr.Name _ _) (envX _ _ _ _ _ _)) _ _ _); k_dflt (refine nameX_L (by k_asm) (by with_reducible assumption) ?_))) | ((with_reducible show wpAny _ _ (PySem.call (Value.type "range") _ _) _ _ _); (k_here; k_dflt ((rename Fr _ _ _ _ => fR'); (rename News _ _ _ _ => nR'); (with_unfolding_all refine range1_rows fR' nR' ?_); intro _ _ _ _ _ _ _ _ _))) | ((k_here; k_dflt ((with_reducible show wpAny _ _ (PySem.call (Value.ref 271) _ _) _ _ _); (refine' draw_c (by k_asm) (by k_asm) (by k_asm) (by (first | k_asm | exact rot1 (by assumption) | exact rot2 (by assumption) | exact rot3 (by assumption) | exact rot4 (by assumption) | exact rot5 (by assumption) | exact rot6 (by assumption) | exact rot7 (by assumption) | exact rot8 (by assumption))) (by k_asm) (by first | exact rfl | assumption) (by ktr_rel) (by first | assumption | lia) (by assumption) (by cb_room) (by cb_room) (by cb_room) (by cb_room) (by cb_room) (by cb_room) (by ktr_room) (by ktr_room) ?_); intro v9 t9 t8 n9 h9 tk9 b8 b9 F9 N9; (try dsimp only); (try k_fold)))) | (k_unfold; (try dsimp only)) | (k_end; wrow_close) | walk1 | (dsimp only; walk1) | (leave1; walk_say "STEP leave1"; try dsimp only) | fail "no step"))
  refine hret _ acc.toList nl _ _ (ints_of_get _ _ ?l ?g) lt (by assumption) ?nn
  case nn => assumption
  case l => rw [upTo_len, Array.length_toList]; exact hac.1
  case g =>
    intro j v hv
    have hj : j < fvs.length := by have := (List.getElem?_eq_some_iff.mp hv).1; rw [Array.length_toList, hac.1] at this; exact this
    obtain ⟨t, e⟩ := hac.2 j v (by simpa using hv)
    exact ⟨t, by rw [e, upTo_get hj]; congr 1; lia⟩
noncomputable def FSpec.blk : FSpec → Int
  | .one _ _ _ => 31
  | .two _ _ _ _ => 47
theorem FSpec.blk_pos (f : FSpec) : 31 ≤ f.blk ∧ f.blk ≤ 47 := by cases f <;> simp [FSpec.blk]
noncomputable def J8 (R : List (Addr × Obj)) (o2 : Obj) (L : Addr) (fs : List FSpec) (i : Nat) (ys : List Value) (news : List (Addr × Obj)) : Prop :=
  news = (L + 1 + 1, o2) :: R ∧ IntsAre ys ((fs.take i).map FSpec.blk)
theorem Fonts.get {R : List (Addr × Obj)} {vs : List Value} {fs : List FSpec} (h : Fonts R vs fs) : ∀ (j : Nat) (v : Value), vs[j]? = some v → ∃ f, fs[j]? = some f ∧ FontObj R v f := by
  induction h with
  | nil => intro j v h; simp at h
  | snoc h i ih =>
    intro j v hv
    have hl := h.len
    rename_i vs fs v0 f0
    by_cases hj : j < vs.length
    · rw [List.getElem?_append_left hj] at hv
      obtain ⟨f, hf, ho⟩ := ih j v hv
      exact ⟨f, by rw [List.getElem?_append_left (by lia)]; exact hf, ho⟩
    · rw [List.getElem?_append_right (by lia)] at hv
      have hj2 : j - vs.length = 0 := by
        have := (List.getElem?_eq_some_iff.mp hv).1
        simp at this
        lia
      rw [hj2] at hv
      simp at hv
      refine ⟨f0, ?_, hv ▸ i⟩
      rw [List.getElem?_append_right (by lia), show j - fs.length = 0 by lia]
      rfl
set_option maxRecDepth 100000 in
set_option maxHeartbeats 8000000 in
theorem st8 {fl : Addr} {fvs : List Value} {fn : Nat} {o2 : Obj} {R : List (Addr × Obj)} {fs : List FSpec} {b : Bool} {bg : Int} {tbg : Tok}
  (B : Below A₀ base outer h₀) (F : Fr h₀ L s.heap m) (X : (Mine.hd.heap_39 w.params).In h₀) (N : News h₀ L s.heap ((L + 1 + 1, o2) :: R)) (T : Top Mine.hd.view_39 (looseW Mine.hd.view_39 [Str.ofString "ShapeError", Str.ofString "VERSIONS"]) mean mg mb h₀)
  (hd : dp ≤ 310) (hu : un ≤ 1200) (d2 : o2.data = .cell (some (.ref fl))) (mf : (fl, W.listOf fvs.toArray fn) ∈ R) (hf : Fonts R fvs fs) (hf1 : 1 ≤ fvs.length) (hf2 : fvs.length ≤ 3) (hb : m (Str.ofString "is_ahead") = some (.bool b)) (hg : m (Str.ofString "begun") = some (.int bg tbg)) (hbg : 0 ≤ bg) (hbg2 : bg ≤ 1000)
  (hret : ∀ t h' tk', Fr h₀ L h' (fun y => if y = Str.ofString "pool_at" then some (.int (if b then bg else bg + (fs.map FSpec.blk).sum) t) else m y) → News h₀ L h' ((L + 1 + 1, o2) :: R) → Q .next { s with heap := h', toks := tk' }) :
  wpAny (model PySem.Challenge.rw_pb0178_01.row.prog w) (ktrTop dp un gd lawN lawSc L a ccd (lawCl L) outer) (exec (lawS 8) (envX lawN lawSc L a ccd (lawCl L))) Q E s := by
  with_unfolding_all (show wpAny _ _ (exec (Stmt.Assign _ _ _) _) _ _ _)
  cases b
  · repeat' (first | ((fail_if_success (with_reducible show wpAny _ _ (eval (Expr.ListComp _ _ _ _) _) _ _ _)); (first | ((k_here; (with_reducible show wpAny _ _ (call (Value.builtin "len") [Value.ref _]) _ _ _); k_dflt (refine len_memL (by k_asm) (by repeat (first | assumption | exact .head _ | refine .tail _ ?_)) (by first | lia | (simp only [List.size_toArray]; lia)) ?_))) | ((k_here; (with_reducible show wpAny _ _ (eval (Expr.Name _ _) (envX _ _ _ _ _ _)) _ _ _); k_dflt (refine nameX_L (by k_asm) (by with_reducible assumption) ?_))) | ((with_reducible show wpAny _ _ (PySem.call (Value.type "range") _ _) _ _ _); (k_here; k_dflt ((rename Fr _ _ _ _ => fR'); (rename News _ _ _ _ => nR'); (with_unfolding_all refine range1_rows fR' nR' ?_); intro _ _ _ _ _ _ _ _ _))) | ((k_here; k_dflt ((with_reducible show wpAny _ _ (PySem.call (Value.ref 271) _ _) _ _ _); (refine' draw_c (by k_asm) (by k_asm) (by k_asm) (by (first | k_asm | exact rot1 (by assumption) | exact rot2 (by assumption) | exact rot3 (by assumption) | exact rot4 (by assumption) | exact rot5 (by assumption) | exact rot6 (by assumption) | exact rot7 (by assumption) | exact rot8 (by assumption))) (by k_asm) (by first | exact rfl | assumption) (by ktr_rel) (by first | assumption | lia) (by assumption) (by cb_room) (by cb_room) (by cb_room) (by cb_room) (by cb_room) (by cb_room) (by ktr_room) (by ktr_room) ?_); intro v9 t9 t8 n9 h9 tk9 b8 b9 F9 N9; (try dsimp only); (try k_fold)))) | (k_unfold; (try dsimp only)) | (k_end; wrow_close) | walk1 | (dsimp only; walk1))))
    refine ListComp_W (F₀ := F) (by with_unfolding_all rfl) (by decide) (by rfl) (by decide) (by rfl) (by intro _; with_unfolding_all rfl) ?_
    repeat' (first | ((fail_if_success (with_reducible show CompSrcW _ _ _ _ _ _ _ _ _ _ _ _ _ _)); (first | ((k_here; (with_reducible show wpAny _ _ (call (Value.builtin "len") [Value.ref _]) _ _ _); k_dflt (refine len_memL (by k_asm) (by repeat (first | assumption | exact .head _ | refine .tail _ ?_)) (by first | lia | (simp only [List.size_toArray]; lia)) ?_))) | ((k_here; (with_reducible show wpAny _ _ (eval (Expr.Name _ _) (envX _ _ _ _ _ _)) _ _ _); k_dflt (refine nameX_L (by k_asm) (by with_reducible assumption) ?_))) | ((with_reducible show wpAny _ _ (PySem.call (Value.type "range") _ _) _ _ _); (k_here; k_dflt ((rename Fr _ _ _ _ => fR'); (rename News _ _ _ _ => nR'); (with_unfolding_all refine range1_rows fR' nR' ?_); intro _ _ _ _ _ _ _ _ _))) | ((k_here; k_dflt ((with_reducible show wpAny _ _ (PySem.call (Value.ref 271) _ _) _ _ _); (refine' draw_c (by k_asm) (by k_asm) (by k_asm) (by (first | k_asm | exact rot1 (by assumption) | exact rot2 (by assumption) | exact rot3 (by assumption) | exact rot4 (by assumption) | exact rot5 (by assumption) | exact rot6 (by assumption) | exact rot7 (by assumption) | exact rot8 (by assumption))) (by k_asm) (by first | exact rfl | assumption) (by ktr_rel) (by first | assumption | lia) (by assumption) (by cb_room) (by cb_room) (by cb_room) (by cb_room) (by cb_room) (by cb_room) (by ktr_room) (by ktr_room) ?_); intro v9 t9 t8 n9 h9 tk9 b8 b9 F9 N9; (try dsimp only); (try k_fold)))) | (k_unfold; (try dsimp only)) | (k_end; wrow_close) | walk1 | (dsimp only; walk1))))
    have hS : PyProof.Rows.LCg.SrcAt h₀ fl fvs.toArray ((L + 1 + 1, o2) :: R) := .inr ⟨_, .tail _ mf, rfl, _, rfl⟩
    have hlen := hf.len
    (rename News _ _ _ _ => nR)
    (rename Fr _ _ _ _ => fR)
    refine CompSrcW.mk (iter_list hS rfl fR nR) fR nR ?hsz hS fun g => compRest_inv (J8 R o2 L fs) ?j0 ?step ?fin
    case hsz => rw [List.size_toArray, sizeLine_eq]; lia
    case j0 => exact ⟨rfl, .nil⟩
    case step =>
      clear nR fR
      intro j ys news v I oI C oC D m₂ h tk E' hj hJ hP hC hx F₁ N₁ off₁ ne
      obtain ⟨rfl, hio⟩ := hJ
      rw [List.size_toArray] at hj
      obtain ⟨f, hfj, hfo⟩ := hf.get j v (by simpa using hP)
      have htk : (fs.take (j + 1)).map FSpec.blk = (fs.take j).map FSpec.blk ++ [f.blk] := by
        obtain ⟨hl, e⟩ := List.getElem?_eq_some_iff.mp hfj
        rw [List.take_succ_eq_append_getElem hl, List.map_append, e]
        rfl
      have up : ∀ p ∈ R, p ∈ (I, oI) :: (C, oC) :: (D, PyProof.Rows.LCg.lst ys) :: (L + 1 + 1, o2) :: R := fun p hp => .tail _ (.tail _ (.tail _ (.tail _ hp)))
      cases hfo with
      | one hft hl h1 =>
        have kf := up _ hft
        have kl := up _ hl
        (repeat' (first | ((k_here; (with_reducible show wpAny _ _ (call (Value.builtin "len") [Value.ref _]) _ _ _); k_dflt (refine len_memL (by k_asm) (by repeat (first | assumption | exact .head _ | refine .tail _ ?_)) (by first | lia | (simp only [List.size_toArray]; lia)) ?_))) | ((k_here; (with_reducible show wpAny _ _ (eval (Expr.Name _ _) (envX _ _ _ _ _ _)) _ _ _); k_dflt (refine nameX_L (by k_asm) (by with_reducible assumption) ?_))) | ((with_reducible show wpAny _ _ (PySem.call (Value.type "range") _ _) _ _ _); (k_here; k_dflt ((rename Fr _ _ _ _ => fR'); (rename News _ _ _ _ => nR'); (with_unfolding_all refine range1_rows fR' nR' ?_); intro _ _ _ _ _ _ _ _ _))) | ((k_here; k_dflt ((with_reducible show wpAny _ _ (PySem.call (Value.ref 271) _ _) _ _ _); (refine' draw_c (by k_asm) (by k_asm) (by k_asm) (by (first | k_asm | exact rot1 (by assumption) | exact rot2 (by assumption) | exact rot3 (by assumption) | exact rot4 (by assumption) | exact rot5 (by assumption) | exact rot6 (by assumption) | exact rot7 (by assumption) | exact rot8 (by assumption))) (by k_asm) (by first | exact rfl | assumption) (by ktr_rel) (by first | assumption | lia) (by assumption) (by cb_room) (by cb_room) (by cb_room) (by cb_room) (by cb_room) (by cb_room) (by ktr_room) (by ktr_room) ?_); intro v9 t9 t8 n9 h9 tk9 b8 b9 F9 N9; (try dsimp only); (try k_fold)))) | (k_unfold; (try dsimp only)) | (k_end; wrow_close) | walk1 | (dsimp only; walk1) | (leave1; walk_say "STEP leave1"; try dsimp only) | fail "no step"))
        refine PyProof.Rows.LCg.CompEnd.intro (all := _) F₁ N₁ _ (fun p hp => hp) off₁ (.inr ⟨_, .tail _ mf, rfl, _, rfl⟩) ⟨rfl, ?_⟩
        rw [htk]
        exact ints_snoc hio _ _
      | two hft hl h1 h2 =>
        have kf := up _ hft
        have kl := up _ hl
        (repeat' (first | ((k_here; (with_reducible show wpAny _ _ (call (Value.builtin "len") [Value.ref _]) _ _ _); k_dflt (refine len_memL (by k_asm) (by repeat (first | assumption | exact .head _ | refine .tail _ ?_)) (by first | lia | (simp only [List.size_toArray]; lia)) ?_))) | ((k_here; (with_reducible show wpAny _ _ (eval (Expr.Name _ _) (envX _ _ _ _ _ _)) _ _ _); k_dflt (refine nameX_L (by k_asm) (by with_reducible assumption) ?_))) | ((with_reducible show wpAny _ _ (PySem.call (Value.type "range") _ _) _ _ _); (k_here; k_dflt ((rename Fr _ _ _ _ => fR'); (rename News _ _ _ _ => nR'); (with_unfolding_all refine range1_rows fR' nR' ?_); intro _ _ _ _ _ _ _ _ _))) | ((k_here; k_dflt ((with_reducible show wpAny _ _ (PySem.call (Value.ref 271) _ _) _ _ _); (refine' draw_c (by k_asm) (by k_asm) (by k_asm) (by (first | k_asm | exact rot1 (by assumption) | exact rot2 (by assumption) | exact rot3 (by assumption) | exact rot4 (by assumption) | exact rot5 (by assumption) | exact rot6 (by assumption) | exact rot7 (by assumption) | exact rot8 (by assumption))) (by k_asm) (by first | exact rfl | assumption) (by ktr_rel) (by first | assumption | lia) (by assumption) (by cb_room) (by cb_room) (by cb_room) (by cb_room) (by cb_room) (by cb_room) (by ktr_room) (by ktr_room) ?_); intro v9 t9 t8 n9 h9 tk9 b8 b9 F9 N9; (try dsimp only); (try k_fold)))) | (k_unfold; (try dsimp only)) | (k_end; wrow_close) | walk1 | (dsimp only; walk1) | (leave1; walk_say "STEP leave1"; try dsimp only) | fail "no step"))
        refine PyProof.Rows.LCg.CompEnd.intro (all := _) F₁ N₁ _ (fun p hp => hp) off₁ (.inr ⟨_, .tail _ mf, rfl, _, rfl⟩) ⟨rfl, ?_⟩
        rw [htk]
        exact ints_snoc hio _ _
    case fin =>
      intro ys news hJ
      obtain ⟨rfl, hio⟩ := hJ
      rw [List.size_toArray, show fvs.length = fs.length from hlen, List.take_length] at hio
      intro D h' tk' F₂ N₂ oD
      clear nR fR
      repeat' (first | ((fail_if_success (with_reducible show wpAny _ _ (PySem.call (Value.builtin "sum") _ _) _ _ _)); (first | ((k_here; (with_reducible show wpAny _ _ (call (Value.builtin "len") [Value.ref _]) _ _ _); k_dflt (refine len_memL (by k_asm) (by repeat (first | assumption | exact .head _ | refine .tail _ ?_)) (by first | lia | (simp only [List.size_toArray]; lia)) ?_))) | ((k_here; (with_reducible show wpAny _ _ (eval (Expr.Name _ _) (envX _ _ _ _ _ _)) _ _ _); k_dflt (refine nameX_L (by k_asm) (by with_reducible assumption) ?_))) | ((with_reducible show wpAny _ _ (PySem.call (Value.type "range") _ _) _ _ _); (k_here; k_dflt ((rename Fr _ _ _ _ => fR'); (rename News _ _ _ _ => nR'); (with_unfolding_all refine range1_rows fR' nR' ?_); intro _ _ _ _ _ _ _ _ _))) | ((k_here; k_dflt ((with_reducible show wpAny _ _ (PySem.call (Value.ref 271) _ _) _ _ _); (refine' draw_c (by k_asm) (by k_asm) (by k_asm) (by (first | k_asm | exact rot1 (by assumption) | exact rot2 (by assumption) | exact rot3 (by assumption) | exact rot4 (by assumption) | exact rot5 (by assumption) | exact rot6 (by assumption) | exact rot7 (by assumption) | exact rot8 (by assumption))) (by k_asm) (by first | exact rfl | assumption) (by ktr_rel) (by first | assumption | lia) (by assumption) (by cb_room) (by cb_room) (by cb_room) (by cb_room) (by cb_room) (by cb_room) (by ktr_room) (by ktr_room) ?_); intro v9 t9 t8 n9 h9 tk9 b8 b9 F9 N9; (try dsimp only); (try k_fold)))) | (k_unfold; (try dsimp only)) | (k_end; wrow_close) | walk1 | (dsimp only; walk1))))
      refine PyProof.Rows.LSm.sum_ints F₂ N₂ rfl ⟨_, N₂.get (.head _), rfl, _, rfl⟩ hio ?_
      intro h2 tk2 t2 F₃ N₃
      (repeat' (first | ((k_here; (with_reducible show wpAny _ _ (call (Value.builtin "len") [Value.ref _]) _ _ _); k_dflt (refine len_memL (by k_asm) (by repeat (first | assumption | exact .head _ | refine .tail _ ?_)) (by first | lia | (simp only [List.size_toArray]; lia)) ?_))) | ((k_here; (with_reducible show wpAny _ _ (eval (Expr.Name _ _) (envX _ _ _ _ _ _)) _ _ _); k_dflt (refine nameX_L (by k_asm) (by with_reducible assumption) ?_))) | ((with_reducible show wpAny _ _ (PySem.call (Value.type "range") _ _) _ _ _); (k_here; k_dflt ((rename Fr _ _ _ _ => fR'); (rename News _ _ _ _ => nR'); (with_unfolding_all refine range1_rows fR' nR' ?_); intro _ _ _ _ _ _ _ _ _))) | ((k_here; k_dflt ((with_reducible show wpAny _ _ (PySem.call (Value.ref 271) _ _) _ _ _); (refine' draw_c (by k_asm) (by k_asm) (by k_asm) (by (first | k_asm | exact rot1 (by assumption) | exact rot2 (by assumption) | exact rot3 (by assumption) | exact rot4 (by assumption) | exact rot5 (by assumption) | exact rot6 (by assumption) | exact rot7 (by assumption) | exact rot8 (by assumption))) (by k_asm) (by first | exact rfl | assumption) (by ktr_rel) (by first | assumption | lia) (by assumption) (by cb_room) (by cb_room) (by cb_room) (by cb_room) (by cb_room) (by cb_room) (by ktr_room) (by ktr_room) ?_); intro v9 t9 t8 n9 h9 tk9 b8 b9 F9 N9; (try dsimp only); (try k_fold)))) | (k_unfold; (try dsimp only)) | (k_end; wrow_close) | walk1 | (dsimp only; walk1) | (leave1; walk_say "STEP leave1"; try dsimp only) | fail "no step"))
      exact hret _ _ _ (by assumption) (news_drop (by assumption))
  · (repeat' (first | ((k_here; (with_reducible show wpAny _ _ (call (Value.builtin "len") [Value.ref _]) _ _ _); k_dflt (refine len_memL (by k_asm) (by repeat (first | assumption | exact .head _ | refine .tail _ ?_)) (by first | lia | (simp only [List.size_toArray]; lia)) ?_))) | ((k_here; (with_reducible show wpAny _ _ (eval (Expr.Name _ _) (envX _ _ _ _ _ _)) _ _ _); k_dflt (refine nameX_L (by k_asm) (by with_reducible assumption) ?_))) | ((with_reducible show wpAny _ _ (PySem.call (Value.type "range") _ _) _ _ _); (k_here; k_dflt ((rename Fr _ _ _ _ => fR'); (rename News _ _ _ _ => nR'); (with_unfolding_all refine range1_rows fR' nR' ?_); intro _ _ _ _ _ _ _ _ _))) | ((k_here; k_dflt ((with_reducible show wpAny _ _ (PySem.call (Value.ref 271) _ _) _ _ _); (refine' draw_c (by k_asm) (by k_asm) (by k_asm) (by (first | k_asm | exact rot1 (by assumption) | exact rot2 (by assumption) | exact rot3 (by assumption) | exact rot4 (by assumption) | exact rot5 (by assumption) | exact rot6 (by assumption) | exact rot7 (by assumption) | exact rot8 (by assumption))) (by k_asm) (by first | exact rfl | assumption) (by ktr_rel) (by first | assumption | lia) (by assumption) (by cb_room) (by cb_room) (by cb_room) (by cb_room) (by cb_room) (by cb_room) (by ktr_room) (by ktr_room) ?_); intro v9 t9 t8 n9 h9 tk9 b8 b9 F9 N9; (try dsimp only); (try k_fold)))) | (k_unfold; (try dsimp only)) | (k_end; wrow_close) | walk1 | (dsimp only; walk1) | (leave1; walk_say "STEP leave1"; try dsimp only) | fail "no step"))
    exact hret _ _ _ (by assumption) (by assumption)
end
end
section
noncomputable def FSpec.ver : FSpec → Int
  | .one v _ _ => v
  | .two v _ _ _ => v
noncomputable def FSpec.rows : FSpec → List (Bool × Int × Int)
  | .one _ b l => [(false, b, l)]
  | .two _ b l k => [(false, b, l), (true, b + l, k)]
noncomputable def FSpec.bytes (pa : Int) (f : FSpec) : List Int := be4 f.ver ++ be2 (f.rows.length : Int) ++ [120, 120, 120, 120, 120, 120] ++ f.rows.flatMap (rowB pa) ++ [103, 97, 112]
theorem FSpec.bytes_len (pa : Int) (f : FSpec) : ((f.bytes pa).length : Int) = f.blk := by
  cases f <;> simp [FSpec.bytes, FSpec.blk, FSpec.rows, be4, be2, rowB_len]
theorem FSpec.ver_ok {f : FSpec} (h : f.Ok) : verOk f.ver := by cases f <;> exact h.1
theorem FSpec.rows_le (f : FSpec) : f.rows.length ≤ 2 := by cases f <;> simp [FSpec.rows]
theorem FontObj.parts {R : List (Addr × Obj)} {v : Value} {f : FSpec} (h : FontObj R v f) (ok : f.Ok) : ∃ ft rl rvs rn tv, v = .ref ft ∧ (ft, tupO #[.int f.ver tv, .ref rl]) ∈ R ∧ (rl, W.listOf (List.toArray rvs) rn) ∈ R ∧ rvs.length = f.rows.length ∧ ∀ (i : Nat) (v : Value), rvs[i]? = some v → ∃ (r : Bool × Int × Int) (ri : Addr) (x y z : Tok), f.rows[i]? = some r ∧ v = .ref ri ∧ (ri, tupO #[.str (tagStr r.1) x, .int r.2.1 y, .int r.2.2 z]) ∈ R ∧ 0 ≤ r.2.1 ∧ r.2.1 < 30 ∧ 0 ≤ r.2.2 ∧ r.2.2 < 9 := by
  cases h with
  | @one ft rl r1 ver b1 l1 n tv x y z hf hl h1 =>
    refine ⟨ft, rl, [.ref r1], n, tv, rfl, hf, hl, rfl, ?_⟩
    intro i v hv
    cases i with
    | zero =>
      simp at hv
      obtain ⟨_, k1, k2, k3, k4⟩ := ok
      exact ⟨(false, b1, l1), r1, x, y, z, rfl, hv.symm, h1, k1, by show b1 < 30; lia, k3, k4⟩
    | succ i => simp at hv
  | @two ft rl r1 r2 ver b1 l1 l2 n tv x y z x2 y2 z2 hf hl h1 h2 =>
    refine ⟨ft, rl, [.ref r1, .ref r2], n, tv, rfl, hf, hl, rfl, ?_⟩
    obtain ⟨_, k1, k2, k3, k4, k5, k6⟩ := ok
    intro i v hv
    cases i with
    | zero =>
      simp at hv
      exact ⟨(false, b1, l1), r1, x, y, z, rfl, hv.symm, h1, k1, by show b1 < 30; lia, k3, k4⟩
    | succ i =>
      cases i with
      | zero =>
        simp at hv
        exact ⟨(true, b1 + l1, l2), r2, x2, y2, z2, rfl, hv.symm, h2, by show 0 ≤ b1 + l1; lia, by show b1 + l1 < 30; lia, k5, k6⟩
      | succ i => simp at hv
theorem value_new {kvs : List (Int × Value)} {k : Int} {v : Value} (h : valueAt kvs k = none) : stored kvs k v = kvs ++ [(k, v)] := by
  unfold stored
  rw [if_neg]
  intro e
  rw [List.any_eq_true] at e
  obtain ⟨p, hp, e⟩ := e
  simp only [valueAt, Option.map_eq_none_iff, List.find?_eq_none] at h
  exact h p hp e
theorem value_self {kvs : List (Int × Value)} {k : Int} {v : Value} (h : valueAt kvs k = none) : valueAt (kvs ++ [(k, v)]) k = some v := by
  simp only [valueAt, Option.map_eq_none_iff] at h
  simp [valueAt, List.find?_append, h]
theorem value_other {kvs : List (Int × Value)} {k k' : Int} {v : Value} (h : k' ≠ k) : valueAt (kvs ++ [(k', v)]) k = valueAt kvs k := by
  simp [valueAt, List.find?_append, h]
/-- what the fonts' directories lay, while `left` holds the fonts not laid yet -/
structure Laid (pa bg : Int) (fs : List FSpec) (pre : List Int) (kvs : List (Int × Value)) (ls os : List Int) : Prop where
  len : kvs.length + ls.length = fs.length
  nodup : ls.Nodup
  ran : ∀ z ∈ ls, ∃ k : Nat, z = (k : Int) ∧ k < fs.length
  tot : (os.length : Int) + (ls.map fun z => (fs.getD z.toNat (.one 0 0 0)).blk).sum = pre.length + (fs.map FSpec.blk).sum
  ext : ∃ X, os = pre ++ X
  each : ∀ k (hk : k < fs.length), ((k : Int) ∈ ls ∧ valueAt kvs (k : Int) = none) ∨ ((k : Int) ∉ ls ∧ ∃ A B t, os = A ++ fs[k].bytes pa ++ B ∧ pre.length ≤ A.length ∧ valueAt kvs (k : Int) = some (.int (bg + (A.length : Int)) t))
  sep : ∀ (j k : Nat) (hj : j < fs.length) (hk : k < fs.length) (x y : Int) (t u : Tok), j ≠ k → valueAt kvs (j : Int) = some (.int x t) → valueAt kvs (k : Int) = some (.int y u) → x + fs[j].blk ≤ y ∨ y + fs[k].blk ≤ x
theorem sum_upTo (fs : List FSpec) : ((upTo fs.length).map fun z => (fs.getD z.toNat (.one 0 0 0)).blk) = fs.map FSpec.blk := by
  apply List.ext_getElem
  · simp [upTo]
  · intro i h1 h2
    simp [upTo] at h1 ⊢
    rw [List.getElem?_eq_getElem h1]
    rfl
theorem Laid.start (pa bg : Int) (fs : List FSpec) (pre : List Int) : Laid pa bg fs pre [] (upTo fs.length) pre where
  len := by simp [upTo]
  nodup := by
    unfold upTo
    rw [List.nodup_iff_pairwise_ne, List.pairwise_map]
    exact (List.nodup_iff_pairwise_ne.mp List.nodup_range).imp fun h e => h (by lia)
  ran := fun z hz => by
    simp only [upTo, List.mem_map, List.mem_range] at hz
    obtain ⟨k, hk, e⟩ := hz
    exact ⟨k, e.symm, hk⟩
  tot := by rw [sum_upTo]
  ext := ⟨[], by simp⟩
  each := fun k hk => .inl ⟨by simp only [upTo, List.mem_map, List.mem_range]; exact ⟨k, hk, rfl⟩, rfl⟩
  sep := fun j k _ _ x y t u _ h _ => by simp [valueAt] at h
theorem sum_blk_nonneg (fs : List FSpec) (ls : List Int) : 0 ≤ (ls.map fun z => (fs.getD z.toNat (.one 0 0 0)).blk).sum := by
  induction ls with
  | nil => simp
  | cons z ls ih =>
    have := ((fs.getD z.toNat (.one 0 0 0))).blk_pos
    simp only [List.map_cons, List.sum_cons]
    lia
theorem sum_blk_le (fs : List FSpec) : 0 ≤ (fs.map FSpec.blk).sum ∧ (fs.map FSpec.blk).sum ≤ 47 * fs.length := by
  induction fs with
  | nil => simp
  | cons z ls ih =>
    have := z.blk_pos
    simp only [List.map_cons, List.sum_cons, List.length_cons]
    lia
theorem Laid.le {pa bg : Int} {fs : List FSpec} {pre ls os : List Int} {kvs : List (Int × Value)} (h : Laid pa bg fs pre kvs ls os) (hf : fs.length ≤ 3) : os.length ≤ pre.length + 141 := by
  have h1 := h.tot
  have h2 := sum_blk_nonneg fs ls
  have h3 := sum_blk_le fs
  lia
theorem Laid.at {pa bg : Int} {fs : List FSpec} {pre ls os : List Int} {kvs : List (Int × Value)} (h : Laid pa bg fs pre kvs ls os) {k : Nat} (hk : k < ls.length) : ∃ (z : Nat) (hz : z < fs.length), ls[k] = (z : Int) ∧ valueAt kvs (z : Int) = none := by
  obtain ⟨z, e, hz⟩ := h.ran _ (List.getElem_mem hk)
  refine ⟨z, hz, e, ?_⟩
  rcases h.each z hz with ⟨_, hn⟩ | ⟨hn, _⟩
  · exact hn
  · exact absurd (e ▸ List.getElem_mem hk) hn
theorem Laid.step {pa bg : Int} {fs : List FSpec} {pre ls os : List Int} {kvs : List (Int × Value)} (h : Laid pa bg fs pre kvs ls os) {k : Nat} (hk : k < ls.length) {z : Nat} (hz : z < fs.length) (e : ls[k] = (z : Int)) (t : Tok) :
    Laid pa bg fs pre (stored kvs (z : Int) (.int (bg + (os.length : Int)) t)) (ls.take k ++ ls.drop (k + 1)) (os ++ fs[z].bytes pa) := by
  obtain ⟨z', hz', e', hv⟩ := h.at hk
  obtain rfl : z = z' := by lia
  rw [value_new hv]
  have hp : (ls[k] :: (ls.take k ++ ls.drop (k + 1))).Perm ls := by
    have h1 : ls.take k ++ ls[k] :: ls.drop (k + 1) = ls := by rw [← List.drop_eq_getElem_cons hk, List.take_append_drop]
    have h2 : (ls[k] :: (ls.take k ++ ls.drop (k + 1))).Perm (ls.take k ++ ls[k] :: ls.drop (k + 1)) := List.perm_middle.symm
    exact h2.trans (List.Perm.of_eq h1)
  rw [e] at hp
  have hnd : ((z : Int) :: (ls.take k ++ ls.drop (k + 1))).Nodup := hp.nodup_iff.mpr h.nodup
  have hmem : ∀ y : Int, y ∈ ls ↔ y = (z : Int) ∨ y ∈ ls.take k ++ ls.drop (k + 1) := fun y => by rw [← hp.mem_iff, List.mem_cons]
  have hlen := hp.length_eq
  have hsum : (ls.map fun z => (fs.getD z.toNat (.one 0 0 0)).blk).sum = (fs[z]).blk + ((ls.take k ++ ls.drop (k + 1)).map fun z => (fs.getD z.toNat (.one 0 0 0)).blk).sum := by
    have h1 : ls = ls.take k ++ (z : Int) :: ls.drop (k + 1) := by rw [← e, ← List.drop_eq_getElem_cons hk, List.take_append_drop]
    have h2 : fs.getD (z : Int).toNat (.one 0 0 0) = fs[z] := by simp [List.getD_eq_getElem?_getD, List.getElem?_eq_getElem hz]
    have h3 : (ls.map fun z => (fs.getD z.toNat (.one 0 0 0)).blk).sum = ((ls.take k ++ (z : Int) :: ls.drop (k + 1)).map fun z => (fs.getD z.toNat (.one 0 0 0)).blk).sum := congrArg (fun l : List Int => (l.map fun z => (fs.getD z.toNat (.one 0 0 0)).blk).sum) h1
    rw [h3]
    simp only [List.map_append, List.map_cons, List.sum_append, List.sum_cons, h2]
    lia
  generalize ls.take k ++ ls.drop (k + 1) = ls' at *
  rw [List.nodup_cons] at hnd
  refine ⟨?_, hnd.2, fun y hy => h.ran y ((hmem y).mpr (.inr hy)), ?_, ?_, ?_, ?_⟩
  · have := h.len
    simp at hlen ⊢
    lia
  · have h1 := h.tot
    have h2 := (fs[z]).bytes_len pa
    rw [List.length_append]
    lia
  · obtain ⟨X, rfl⟩ := h.ext
    exact ⟨X ++ fs[z].bytes pa, by simp⟩
  · intro j hj
    by_cases hjz : j = z
    · subst hjz
      obtain ⟨X, hX⟩ := h.ext
      exact .inr ⟨hnd.1, os, [], t, by simp, by rw [hX]; simp, value_self hv⟩
    · have hjz' : ((z : Nat) : Int) ≠ (j : Int) := by lia
      rcases h.each j hj with ⟨h1, h2⟩ | ⟨h1, A, B, t', h3, h4, h5⟩
      · refine .inl ⟨?_, by rw [value_other hjz']; exact h2⟩
        rcases (hmem _).mp h1 with h1 | h1
        · exact absurd h1.symm hjz'
        · exact h1
      · refine .inr ⟨fun hc => h1 ((hmem _).mpr (.inr hc)), A, B ++ fs[z].bytes pa, t', by rw [h3]; simp, h4, by rw [value_other hjz']; exact h5⟩
  · have low : ∀ (j : Nat) (hj : j < fs.length) (x : Int) (u : Tok), j ≠ z → valueAt kvs (j : Int) = some (.int x u) → x + fs[j].blk ≤ bg + (os.length : Int) := by
      intro j hj x u hjz hx
      rcases h.each j hj with ⟨_, h2⟩ | ⟨_, A, B, t', h3, _, h5⟩
      · rw [hx] at h2; cases h2
      · rw [hx] at h5
        have e1 : x = bg + (A.length : Int) := by injection h5 with h5; injection h5
        have e2 := (fs[j]).bytes_len pa
        have e3 : os.length = A.length + (fs[j].bytes pa).length + B.length := by rw [h3, List.length_append, List.length_append]
        lia
    intro j k hj hk x y u v hjk hx hy
    by_cases hjz : j = z
    · subst hjz
      rw [value_self hv] at hx
      have e1 : bg + (os.length : Int) = x := by injection hx with hx; injection hx
      rw [value_other (by lia)] at hy
      have := low k hk y v (Ne.symm hjk) hy
      exact .inr (by lia)
    · rw [value_other (by lia)] at hx
      by_cases hkz : k = z
      · subst hkz
        rw [value_self hv] at hy
        have e1 : bg + (os.length : Int) = y := by injection hy with hy; injection hy
        have := low j hj x u hjz hx
        exact .inl (by lia)
      · rw [value_other (by lia)] at hy
        exact h.sep j k hj hk x y u v hjk hx hy
end
section
theorem part19 : True := by
  w_top off
  trivial
theorem cut_at {l : List Value} {k : Nat} (h : k < l.length) : kl_cut l k = some (l.take k, l[k], l.drop (k + 1)) := by
  induction l generalizing k with
  | nil => simp at h
  | cons a r ih =>
    cases k with
    | zero => rfl
    | succ k => simp only [kl_cut, ih (by simpa using h)]; rfl
theorem ints_get {vs : List Value} {ns : List Int} (h : IntsAre vs ns) {k : Nat} (hk : k < vs.length) (hk2 : k < ns.length) : ∃ t, vs[k] = .int ns[k] t := by
  induction h generalizing k with
  | nil => simp at hk
  | cons n t h ih =>
    cases k with
    | zero => exact ⟨t, rfl⟩
    | succ k => exact ih (by simpa using hk) (by simpa using hk2)
theorem ints_erase {vs : List Value} {ns : List Int} (h : IntsAre vs ns) (k : Nat) : IntsAre (vs.take k ++ vs.drop (k + 1)) (ns.take k ++ ns.drop (k + 1)) := by
  induction h generalizing k with
  | nil => simp; exact .nil
  | cons n t h ih =>
    cases k with
    | zero => simpa using h
    | succ k => exact .cons n t (ih k)
section
variable {w : World} {mean : ExcName → Option Value} {mg mb : PySem.Str → Option Value} {dp un : Nat} {gd : Option (List Code)} {a : Addr} {ccd : Value} {outer : List Env} {A₀ : Around} {base h₀ : Heap} {L : Addr} {m : PySem.Str → Option Value} {s : Shared} {Q : PySem.Flow → Shared → Prop} {E : Value → Shared → Prop}
set_option maxRecDepth 100000 in
set_option maxHeartbeats 8000000 in
theorem w0 {tp c lf : Addr} {vs lvs : List Value} {ns ls : List Int} {i : Int} {ti : Tok} {n n' nl : Nat} {o1 : Obj} {R : List (Addr × Obj)}
  (B : Below A₀ base outer h₀) (F : Fr h₀ L s.heap m) (X : (Mine.hd.heap_39 w.params).In h₀) (N : News h₀ L s.heap ((tp, listOf #[.ref c, .int i ti] n) :: (c, listOf vs.toArray n') :: (lf, listOf lvs.toArray nl) :: R)) (T : Top Mine.hd.view_39 (looseW Mine.hd.view_39 [Str.ofString "ShapeError", Str.ofString "VERSIONS"]) mean mg mb h₀)
  (hd : dp ≤ 310) (hu : un ≤ 1200) (hi : IntsAre vs ns) (hn1 : 1 ≤ ns.length) (hn2 : ns.length ≤ 60) (mt : (L + 1, o1) ∈ (tp, listOf #[.ref c, .int i ti] n) :: (c, listOf vs.toArray n') :: (lf, listOf lvs.toArray nl) :: R) (d1 : o1.data = .cell (some (.ref tp))) (hct : @Ne Nat c tp) (hlt : @Ne Nat lf tp) (hlc : @Ne Nat lf c) (offR : OwnOff R [tp]) (offL : ∀ p ∈ R, p.1 ≠ lf) (hl : m (Str.ofString "left") = some (.ref lf)) (hli : IntsAre lvs ls) (hl1 : 1 ≤ ls.length) (hl2 : ls.length ≤ 3) (h0 : 0 ≤ i) (h1 : i < 190)
  (hret : ∀ (k : Nat) (hk : k < ls.length) lvs' t t2 n2 nl' h' tk', IntsAre lvs' (ls.take k ++ ls.drop (k + 1)) → Fr h₀ L h' (fun y => if y = Str.ofString "spot" then some (.int ls[k] t) else m y) → News h₀ L h' ((tp, listOf #[.ref c, .int (i + 1) t2] n2) :: (c, listOf vs.toArray n') :: (lf, listOf lvs'.toArray nl') :: R) → Q .next { s with heap := h', toks := tk' }) :
  wpAny (model PySem.Challenge.rw_pb0178_01.row.prog w) (ktrTop dp un gd lawN lawSc L a ccd (lawCl L) outer) (exec (lawW 0) (envX lawN lawSc L a ccd (lawCl L))) Q E s := by
  have hll := hli.length
  have own9 := own_cons (p := (lf, listOf lvs.toArray nl)) (adr := [tp]) ⟨hlt, trivial⟩ offR
  with_unfolding_all (show wpAny _ _ (exec (Stmt.Assign _ _ _) _) _ _ _)
  repeat' (first | ((fail_if_success (with_reducible show wpAny _ _ (PySem.call (Value.builtin "list.pop") _ _) _ _ _)); (first | ((k_here; (with_reducible show wpAny _ _ (call (Value.builtin "len") [Value.ref _]) _ _ _); k_dflt (refine len_memL (by k_asm) (by repeat (first | assumption | exact .head _ | refine .tail _ ?_)) (by first | lia | (simp only [List.size_toArray]; lia)) ?_))) | ((k_here; (with_reducible show wpAny _ _ (eval (Expr.Name _ _) (envX _ _ _ _ _ _)) _ _ _); k_dflt (refine nameX_L (by k_asm) (by with_reducible assumption) ?_))) | ((k_here; k_dflt ((with_reducible show wpAny _ _ (PySem.call (Value.ref 271) _ _) _ _ _); (refine' draw_c (by k_asm) (by k_asm) (by k_asm) (by (first | k_asm | exact rot1 (by assumption) | exact rot2 (by assumption) | exact rot3 (by assumption) | exact rot4 (by assumption) | exact rot5 (by assumption) | exact rot6 (by assumption) | exact rot7 (by assumption) | exact rot8 (by assumption))) (by k_asm) (by first | exact rfl | assumption) (by ktr_rel) (by first | assumption | lia) (by assumption) (by cb_room) (by cb_room) (by cb_room) (by cb_room) (by first | cb_room | (simp only [List.size_toArray]; lia)) (by first | cb_room | (simp only [List.size_toArray]; lia)) (by ktr_room) (by ktr_room) ?_); intro v9 t9 t8 n9 h9 tk9 b8 b9 F9 N9; (try dsimp only); (try k_fold)))) | (k_unfold; (try dsimp only)) | (k_end; wrow_close) | walk1 | (dsimp only; walk1))))
  (rename News _ _ _ _ => nR)
  (rename Fr _ _ _ _ => fR)
  (rename (_ : Int) < (lvs.toArray.size : Int) => b9)
  (rename 0 ≤ (_ : Int) => b8)
  rw [List.size_toArray] at b9
  obtain ⟨k, rfl⟩ := Int.eq_ofNat_of_zero_le b8
  have hk : k < lvs.length := by lia
  have hk2 : k < ls.length := by lia
  obtain ⟨te, he⟩ := ints_get hli hk hk2
  refine kl_popAt (k := k) (D := lf) fR nR ?pf ?pk (cut_at (l := lvs) hk) (.tail ?u1 (.tail ?u2 (.head offL))) ?pz ?_
  case pf => simp [Builtin.List.listFitsIndex]; lia
  case pk => simp only [seqIndex?, List.size_toArray]; simp; lia
  case u1 => exact Ne.symm hlt
  case u2 => exact Ne.symm hlc
  case pz => rw [sizeLine_eq]; show lvs.length ≤ _; lia
  intro h2 F2 N2
  rw [he]
  clear nR fR
  (repeat' (first | ((k_here; (with_reducible show wpAny _ _ (call (Value.builtin "len") [Value.ref _]) _ _ _); k_dflt (refine len_memL (by k_asm) (by repeat (first | assumption | exact .head _ | refine .tail _ ?_)) (by first | lia | (simp only [List.size_toArray]; lia)) ?_))) | ((k_here; (with_reducible show wpAny _ _ (eval (Expr.Name _ _) (envX _ _ _ _ _ _)) _ _ _); k_dflt (refine nameX_L (by k_asm) (by with_reducible assumption) ?_))) | ((k_here; k_dflt ((with_reducible show wpAny _ _ (PySem.call (Value.ref 271) _ _) _ _ _); (refine' draw_c (by k_asm) (by k_asm) (by k_asm) (by (first | k_asm | exact rot1 (by assumption) | exact rot2 (by assumption) | exact rot3 (by assumption) | exact rot4 (by assumption) | exact rot5 (by assumption) | exact rot6 (by assumption) | exact rot7 (by assumption) | exact rot8 (by assumption))) (by k_asm) (by first | exact rfl | assumption) (by ktr_rel) (by first | assumption | lia) (by assumption) (by cb_room) (by cb_room) (by cb_room) (by cb_room) (by first | cb_room | (simp only [List.size_toArray]; lia)) (by first | cb_room | (simp only [List.size_toArray]; lia)) (by ktr_room) (by ktr_room) ?_); intro v9 t9 t8 n9 h9 tk9 b8 b9 F9 N9; (try dsimp only); (try k_fold)))) | (k_unfold; (try dsimp only)) | (k_end; wrow_close) | walk1 | (dsimp only; walk1) | (leave1; walk_say "STEP leave1"; try dsimp only) | fail "no step"))
  exact hret k hk2 _ _ _ _ _ _ _ (ints_erase hli k) (by assumption) (by assumption)
end
end
section
theorem part20 : True := by
  w_top off
  trivial
section
variable {w : World} {mean : ExcName → Option Value} {mg mb : PySem.Str → Option Value} {dp un : Nat} {gd : Option (List Code)} {a : Addr} {ccd : Value} {outer : List Env} {A₀ : Around} {base h₀ : Heap} {L : Addr} {m : PySem.Str → Option Value} {s : Shared} {Q : PySem.Flow → Shared → Prop} {E : Value → Shared → Prop}
set_option maxRecDepth 100000 in
set_option maxHeartbeats 8000000 in
theorem w1 {fl ft rl : Addr} {fvs : List Value} {fn : Nat} {o2 : Obj} {k : Nat} {ts tv : Tok} {ver : Int} {news : List (Addr × Obj)}
  (B : Below A₀ base outer h₀) (F : Fr h₀ L s.heap m) (X : (Mine.hd.heap_39 w.params).In h₀) (N : News h₀ L s.heap (news)) (T : Top Mine.hd.view_39 (looseW Mine.hd.view_39 [Str.ofString "ShapeError", Str.ofString "VERSIONS"]) mean mg mb h₀)
  (hd : dp ≤ 310) (hu : un ≤ 1200) (m2 : (L + 1 + 1, o2) ∈ news) (d2 : o2.data = .cell (some (.ref fl))) (mf : (fl, W.listOf fvs.toArray fn) ∈ news) (hs : m (Str.ofString "spot") = some (.int (k : Int) ts)) (hk : k < 100) (hv : fvs[k]? = some (.ref ft)) (mt : (ft, tupO #[.int ver tv, .ref rl]) ∈ news)
  (hret : ∀ h' tk', Fr h₀ L h' (fun y => if y = Str.ofString "rows" then some (.ref rl) else if y = Str.ofString "version" then some (.int ver tv) else m y) → News h₀ L h' news → Q .next { s with heap := h', toks := tk' }) :
  wpAny (model PySem.Challenge.rw_pb0178_01.row.prog w) (ktrTop dp un gd lawN lawSc L a ccd (lawCl L) outer) (exec (lawW 1) (envX lawN lawSc L a ccd (lawCl L))) Q E s := by
  with_unfolding_all (show wpAny _ _ (exec (Stmt.Assign _ _ _) _) _ _ _)
  (repeat' (first | ((k_here; k_dflt ((with_reducible show wpAny _ _ (PySem.call (Value.ref 276) _ _) _ _ _); (refine' oc2_c (by k_asm) (by k_asm) (by k_asm) (by k_asm) (by k_asm) (by first | exact rfl | assumption) (by cb_room) (by cb_room) (by ktr_room) (by ktr_room) ?_); intro d9 t9 h9 tk9 e9 F9 N9; (try dsimp only); (try k_fold)))) | ((k_here; k_dflt ((with_reducible show wpAny _ _ (PySem.call (Value.ref 276) _ _) _ _ _); (refine' oc4_c (by k_asm) (by k_asm) (by k_asm) (by k_asm) (by k_asm) (by first | exact rfl | assumption) (by cb_room) (by cb_room) (by ktr_room) (by ktr_room) ?_); intro d9 t9 h9 tk9 e9 F9 N9; (try dsimp only); (try k_fold)))) | ((k_here; (with_reducible show wpAny _ _ (call (Value.builtin "len") [Value.ref _]) _ _ _); k_dflt (refine len_memL (by k_asm) (by repeat (first | assumption | exact .head _ | refine .tail _ ?_)) (by first | lia | (simp only [List.size_toArray]; lia)) ?_))) | ((k_here; (with_reducible show wpAny _ _ (eval (Expr.Name _ _) (envX _ _ _ _ _ _)) _ _ _); k_dflt (refine nameX_L (by k_asm) (by with_reducible assumption) ?_))) | (k_unfold; (try dsimp only)) | (k_end; wrow_close) | walk1 | (dsimp only; walk1) | (leave1; walk_say "STEP leave1"; try dsimp only) | fail "no step"))
  (rename News _ _ _ _ => nR)
  refine item_mem nR mf (by lia) (by lia) (by simpa using hv) ?_ (by with_unfolding_all rfl)
  (repeat' (first | ((k_here; k_dflt ((with_reducible show wpAny _ _ (PySem.call (Value.ref 276) _ _) _ _ _); (refine' oc2_c (by k_asm) (by k_asm) (by k_asm) (by k_asm) (by k_asm) (by first | exact rfl | assumption) (by cb_room) (by cb_room) (by ktr_room) (by ktr_room) ?_); intro d9 t9 h9 tk9 e9 F9 N9; (try dsimp only); (try k_fold)))) | ((k_here; k_dflt ((with_reducible show wpAny _ _ (PySem.call (Value.ref 276) _ _) _ _ _); (refine' oc4_c (by k_asm) (by k_asm) (by k_asm) (by k_asm) (by k_asm) (by first | exact rfl | assumption) (by cb_room) (by cb_room) (by ktr_room) (by ktr_room) ?_); intro d9 t9 h9 tk9 e9 F9 N9; (try dsimp only); (try k_fold)))) | ((k_here; (with_reducible show wpAny _ _ (call (Value.builtin "len") [Value.ref _]) _ _ _); k_dflt (refine len_memL (by k_asm) (by repeat (first | assumption | exact .head _ | refine .tail _ ?_)) (by first | lia | (simp only [List.size_toArray]; lia)) ?_))) | ((k_here; (with_reducible show wpAny _ _ (eval (Expr.Name _ _) (envX _ _ _ _ _ _)) _ _ _); k_dflt (refine nameX_L (by k_asm) (by with_reducible assumption) ?_))) | (k_unfold; (try dsimp only)) | (k_end; wrow_close) | walk1 | (dsimp only; walk1) | (leave1; walk_say "STEP leave1"; try dsimp only) | fail "no step"))
  all_goals exact hret _ _ (by assumption) (by assumption)
set_option maxRecDepth 100000 in
set_option maxHeartbeats 8000000 in
theorem w2 {pd : Addr} {od o4 : Obj} {kvs : List (Int × Value)} {k bg : Int} {ts tbg to : Tok} {o : Array UInt8} {os : List Int} {R : List (Addr × Obj)}
  (B : Below A₀ base outer h₀) (F : Fr h₀ L s.heap m) (X : (Mine.hd.heap_39 w.params).In h₀) (N : News h₀ L s.heap ((pd, od) :: R)) (T : Top Mine.hd.view_39 (looseW Mine.hd.view_39 [Str.ofString "ShapeError", Str.ofString "VERSIONS"]) mean mg mb h₀)
  (hd : dp ≤ 310) (hu : un ≤ 1200) (m4 : (L + 1 + 1 + 1 + 1, o4) ∈ (pd, od) :: R) (d4 : o4.data = .cell (some (.ref pd))) (offP : ∀ p ∈ R, p.1 ≠ pd) (hs : m (Str.ofString "spot") = some (.int k ts)) (hb : m (Str.ofString "begun") = some (.int bg tbg)) (ho : m (Str.ofString "octets") = some (.bytes o to)) (hoi : KBw.bInts o = os) (hol : os.length ≤ 10000) (hbg : 0 ≤ bg) (hbg2 : bg ≤ 1000) (hkv : Obj.IsDictOf (intKind PySem.Challenge.rw_pb0178_01.row.prog w) od kvs) (hkl : kvs.length ≤ 3)
  (hret : ∀ od' t h' tk', Obj.IsDictOf (intKind PySem.Challenge.rw_pb0178_01.row.prog w) od' (stored kvs k (.int (bg + (os.length : Int)) t)) → Fr h₀ L h' m → News h₀ L h' ((pd, od') :: R) → Q .next { s with heap := h', toks := tk' }) :
  wpAny (model PySem.Challenge.rw_pb0178_01.row.prog w) (ktrTop dp un gd lawN lawSc L a ccd (lawCl L) outer) (exec (lawW 2) (envX lawN lawSc L a ccd (lawCl L))) Q E s := by
  with_unfolding_all (show wpAny _ _ (exec (Stmt.Assign _ _ _) _) _ _ _)
  (repeat' (first | ((k_here; k_dflt ((with_reducible show wpAny _ _ (PySem.call (Value.ref 276) _ _) _ _ _); (refine' oc2_c (by k_asm) (by k_asm) (by k_asm) (by k_asm) (by k_asm) (by first | exact rfl | assumption) (by cb_room) (by cb_room) (by ktr_room) (by ktr_room) ?_); intro d9 t9 h9 tk9 e9 F9 N9; (try dsimp only); (try k_fold)))) | ((k_here; k_dflt ((with_reducible show wpAny _ _ (PySem.call (Value.ref 276) _ _) _ _ _); (refine' oc4_c (by k_asm) (by k_asm) (by k_asm) (by k_asm) (by k_asm) (by first | exact rfl | assumption) (by cb_room) (by cb_room) (by ktr_room) (by ktr_room) ?_); intro d9 t9 h9 tk9 e9 F9 N9; (try dsimp only); (try k_fold)))) | ((k_here; (with_reducible show wpAny _ _ (call (Value.builtin "len") [Value.ref _]) _ _ _); k_dflt (refine len_memL (by k_asm) (by repeat (first | assumption | exact .head _ | refine .tail _ ?_)) (by first | lia | (simp only [List.size_toArray]; lia)) ?_))) | ((k_here; (with_reducible show wpAny _ _ (eval (Expr.Name _ _) (envX _ _ _ _ _ _)) _ _ _); k_dflt (refine nameX_L (by k_asm) (by with_reducible assumption) ?_))) | (k_unfold; (try dsimp only)) | (k_end; wrow_close) | walk1 | (dsimp only; walk1) | (leave1; walk_say "STEP leave1"; try dsimp only) | fail "no step"))
  (rename News _ _ _ _ => nR)
  (rename Fr _ _ _ _ => fR)
  refine kda_set (k := k) fR nR (.head offP) hkv (by show Value.isInt k (.int k ts) = true; simp [Value.isInt]) (by rw [sizeLine_eq]; lia) ?_
  intro h2 od2 F2 N2 hk2
  exact hret od2 _ _ _ hk2 F2 N2
set_option maxRecDepth 100000 in
set_option maxHeartbeats 8000000 in
theorem w3 {rl : Addr} {rvs : Array Value} {rn : Nat} {ver : Int} {tv to : Tok} {o : Array UInt8} {os : List Int} {news : List (Addr × Obj)}
  (B : Below A₀ base outer h₀) (F : Fr h₀ L s.heap m) (X : (Mine.hd.heap_39 w.params).In h₀) (N : News h₀ L s.heap (news)) (T : Top Mine.hd.view_39 (looseW Mine.hd.view_39 [Str.ofString "ShapeError", Str.ofString "VERSIONS"]) mean mg mb h₀)
  (hd : dp ≤ 310) (hu : un ≤ 1200) (mr : (rl, W.listOf rvs rn) ∈ news) (hr1 : rvs.size ≤ 2) (hr : m (Str.ofString "rows") = some (.ref rl)) (hv : m (Str.ofString "version") = some (.int ver tv)) (ho : m (Str.ofString "octets") = some (.bytes o to)) (hoi : KBw.bInts o = os) (hol : os.length ≤ 10000) (hv0 : 0 ≤ ver) (hv1 : ver < 4294967296)
  (hret : ∀ o' to' h' tk', KBw.bInts o' = os ++ be4 ver ++ be2 (rvs.size : Int) ++ [120, 120, 120, 120, 120, 120] → Fr h₀ L h' (fun y => if y = Str.ofString "octets" then some (.bytes o' to') else m y) → News h₀ L h' news → Q .next { s with heap := h', toks := tk' }) :
  wpAny (model PySem.Challenge.rw_pb0178_01.row.prog w) (ktrTop dp un gd lawN lawSc L a ccd (lawCl L) outer) (exec (lawW 3) (envX lawN lawSc L a ccd (lawCl L))) Q E s := by
  with_unfolding_all (show wpAny _ _ (exec (Stmt.Assign _ _ _) _) _ _ _)
  (repeat' (first | ((k_here; k_dflt ((with_reducible show wpAny _ _ (PySem.call (Value.ref 276) _ _) _ _ _); (refine' oc2_c (by k_asm) (by k_asm) (by k_asm) (by k_asm) (by k_asm) (by first | exact rfl | assumption) (by cb_room) (by cb_room) (by ktr_room) (by ktr_room) ?_); intro d9 t9 h9 tk9 e9 F9 N9; (try dsimp only); (try k_fold)))) | ((k_here; k_dflt ((with_reducible show wpAny _ _ (PySem.call (Value.ref 276) _ _) _ _ _); (refine' oc4_c (by k_asm) (by k_asm) (by k_asm) (by k_asm) (by k_asm) (by first | exact rfl | assumption) (by cb_room) (by cb_room) (by ktr_room) (by ktr_room) ?_); intro d9 t9 h9 tk9 e9 F9 N9; (try dsimp only); (try k_fold)))) | ((k_here; (with_reducible show wpAny _ _ (call (Value.builtin "len") [Value.ref _]) _ _ _); k_dflt (refine len_memL (by k_asm) (by repeat (first | assumption | exact .head _ | refine .tail _ ?_)) (by first | lia | (simp only [List.size_toArray]; lia)) ?_))) | ((k_here; (with_reducible show wpAny _ _ (eval (Expr.Name _ _) (envX _ _ _ _ _ _)) _ _ _); k_dflt (refine nameX_L (by k_asm) (by with_reducible assumption) ?_))) | (k_unfold; (try dsimp only)) | (k_end; wrow_close) | walk1 | (dsimp only; walk1) | (leave1; walk_say "STEP leave1"; try dsimp only) | fail "no step"))
  (rename KBw.bInts _ = _ ++ List.map _ _ => kz)
  exact hret _ _ _ _ (kz.trans (by rfl)) (by assumption) (by assumption)
set_option maxRecDepth 100000 in
set_option maxHeartbeats 8000000 in
theorem w5 {to : Tok} {o : Array UInt8} {os : List Int} {news : List (Addr × Obj)}
  (B : Below A₀ base outer h₀) (F : Fr h₀ L s.heap m) (X : (Mine.hd.heap_39 w.params).In h₀) (N : News h₀ L s.heap (news)) (T : Top Mine.hd.view_39 (looseW Mine.hd.view_39 [Str.ofString "ShapeError", Str.ofString "VERSIONS"]) mean mg mb h₀)
  (hd : dp ≤ 310) (hu : un ≤ 1200) (ho : m (Str.ofString "octets") = some (.bytes o to)) (hoi : KBw.bInts o = os) (hol : os.length ≤ 10000)
  (hret : ∀ o' to' h' tk', KBw.bInts o' = os ++ [103, 97, 112] → Fr h₀ L h' (fun y => if y = Str.ofString "octets" then some (.bytes o' to') else m y) → News h₀ L h' news → Q .next { s with heap := h', toks := tk' }) :
  wpAny (model PySem.Challenge.rw_pb0178_01.row.prog w) (ktrTop dp un gd lawN lawSc L a ccd (lawCl L) outer) (exec (lawW 5) (envX lawN lawSc L a ccd (lawCl L))) Q E s := by
  with_unfolding_all (show wpAny _ _ (exec (Stmt.Assign _ _ _) _) _ _ _)
  (repeat' (first | ((k_here; k_dflt ((with_reducible show wpAny _ _ (PySem.call (Value.ref 276) _ _) _ _ _); (refine' oc2_c (by k_asm) (by k_asm) (by k_asm) (by k_asm) (by k_asm) (by first | exact rfl | assumption) (by cb_room) (by cb_room) (by ktr_room) (by ktr_room) ?_); intro d9 t9 h9 tk9 e9 F9 N9; (try dsimp only); (try k_fold)))) | ((k_here; k_dflt ((with_reducible show wpAny _ _ (PySem.call (Value.ref 276) _ _) _ _ _); (refine' oc4_c (by k_asm) (by k_asm) (by k_asm) (by k_asm) (by k_asm) (by first | exact rfl | assumption) (by cb_room) (by cb_room) (by ktr_room) (by ktr_room) ?_); intro d9 t9 h9 tk9 e9 F9 N9; (try dsimp only); (try k_fold)))) | ((k_here; (with_reducible show wpAny _ _ (call (Value.builtin "len") [Value.ref _]) _ _ _); k_dflt (refine len_memL (by k_asm) (by repeat (first | assumption | exact .head _ | refine .tail _ ?_)) (by first | lia | (simp only [List.size_toArray]; lia)) ?_))) | ((k_here; (with_reducible show wpAny _ _ (eval (Expr.Name _ _) (envX _ _ _ _ _ _)) _ _ _); k_dflt (refine nameX_L (by k_asm) (by with_reducible assumption) ?_))) | (k_unfold; (try dsimp only)) | (k_end; wrow_close) | walk1 | (dsimp only; walk1) | (leave1; walk_say "STEP leave1"; try dsimp only) | fail "no step"))
  (rename KBw.bInts _ = _ ++ List.map _ _ => kz)
  exact hret _ _ _ _ (kz.trans (by rfl)) (by assumption) (by assumption)
end
end
section
theorem part21 : True := by
  w_top off
  trivial
noncomputable def J4 (m : PySem.Str → Option Value) (news : List (Addr × Obj)) (os : List Int) (pa : Int) (rws : List (Bool × Int × Int)) (i : Nat) (m' : PySem.Str → Option Value) (news' : List (Addr × Obj)) : Prop :=
  news' = news ∧ ∃ o to a1 a2 a3, m' = (fun y => if y = Str.ofString "octets" then some (.bytes o to) else if y = Str.ofString "length" then a1 else if y = Str.ofString "begin" then a2 else if y = Str.ofString "tag" then a3 else m y) ∧ KBw.bInts o = os ++ (rws.take i).flatMap (rowB pa)
theorem j4_0 {m : PySem.Str → Option Value} {o : Array UInt8} {to : Tok} (ho : m (Str.ofString "octets") = some (.bytes o to)) : m = fun y => if y = Str.ofString "octets" then some (.bytes o to) else if y = Str.ofString "length" then m (Str.ofString "length") else if y = Str.ofString "begin" then m (Str.ofString "begin") else if y = Str.ofString "tag" then m (Str.ofString "tag") else m y := by
  funext y
  split
  · next h => rw [h, ho]
  · split
    · next h => rw [h]
    · split
      · next h => rw [h]
      · split
        · next h => rw [h]
        · rfl
theorem j4_s {m : PySem.Str → Option Value} {ov oo b1 b2 b3 a1 a2 a3 : Option Value} : (fun y => if y = Str.ofString "octets" then oo else if y = Str.ofString "length" then b1 else if y = Str.ofString "begin" then b2 else if y = Str.ofString "tag" then b3 else if y = Str.ofString "octets" then ov else if y = Str.ofString "length" then a1 else if y = Str.ofString "begin" then a2 else if y = Str.ofString "tag" then a3 else m y) = (fun y => if y = Str.ofString "octets" then oo else if y = Str.ofString "length" then b1 else if y = Str.ofString "begin" then b2 else if y = Str.ofString "tag" then b3 else m y) := by
  funext y
  repeat' split
  all_goals first | rfl | contradiction
section
variable {w : World} {mean : ExcName → Option Value} {mg mb : PySem.Str → Option Value} {dp un : Nat} {gd : Option (List Code)} {a : Addr} {ccd : Value} {outer : List Env} {A₀ : Around} {base h₀ : Heap} {L : Addr} {m : PySem.Str → Option Value} {s : Shared} {Q : PySem.Flow → Shared → Prop} {E : Value → Shared → Prop}
set_option maxRecDepth 100000 in
set_option maxHeartbeats 8000000 in
theorem w4 {rl : Addr} {rvs : List Value} {rn : Nat} {pa : Int} {tpa to : Tok} {o : Array UInt8} {os : List Int} {rws : List (Bool × Int × Int)} {news : List (Addr × Obj)}
  (B : Below A₀ base outer h₀) (F : Fr h₀ L s.heap m) (X : (Mine.hd.heap_39 w.params).In h₀) (N : News h₀ L s.heap (news)) (T : Top Mine.hd.view_39 (looseW Mine.hd.view_39 [Str.ofString "ShapeError", Str.ofString "VERSIONS"]) mean mg mb h₀)
  (hd : dp ≤ 310) (hu : un ≤ 1200) (mr : (rl, W.listOf rvs.toArray rn) ∈ news) (hlen : rvs.length = rws.length) (hl2 : rws.length ≤ 2) (hrow : ∀ (i : Nat) (v : Value), rvs[i]? = some v → ∃ (r : Bool × Int × Int) (ri : Addr) (x y z : Tok), rws[i]? = some r ∧ v = .ref ri ∧ (ri, tupO #[.str (tagStr r.1) x, .int r.2.1 y, .int r.2.2 z]) ∈ news ∧ 0 ≤ r.2.1 ∧ r.2.1 < 30 ∧ 0 ≤ r.2.2 ∧ r.2.2 < 9) (hr : m (Str.ofString "rows") = some (.ref rl)) (hp : m (Str.ofString "pool_at") = some (.int pa tpa)) (ho : m (Str.ofString "octets") = some (.bytes o to)) (hoi : KBw.bInts o = os) (hol : os.length ≤ 10000) (hpa : 0 ≤ pa) (hpa2 : pa ≤ 2000) (hE : PassesOwn (model PySem.Challenge.rw_pb0178_01.row.prog w) (ktrTop dp un gd lawN lawSc L a ccd (lawCl L) outer) (envX lawN lawSc L a ccd (lawCl L)) E)
  (hret : ∀ o to a1 a2 a3 h' tk', KBw.bInts o = os ++ rws.flatMap (rowB pa) → Fr h₀ L h' (fun y => if y = Str.ofString "octets" then some (.bytes o to) else if y = Str.ofString "length" then a1 else if y = Str.ofString "begin" then a2 else if y = Str.ofString "tag" then a3 else m y) → News h₀ L h' news → Q .next { s with heap := h', toks := tk' }) :
  wpAny (model PySem.Challenge.rw_pb0178_01.row.prog w) (ktrTop dp un gd lawN lawSc L a ccd (lawCl L) outer) (exec (lawW 4) (envX lawN lawSc L a ccd (lawCl L))) Q E s := by
  with_unfolding_all (show wpAny _ _ (exec (Stmt.For _ _ _ _ _) _) _ _ _)
  refine For_L h₀ ?_ (by intro _; with_unfolding_all rfl) hE
  repeat' (first | ((fail_if_success (with_reducible show LoopL _ _ _ _ _ _ _ _ _ _ _)); (first | (with_reducible ((with_reducible show wpAny _ _ (getMethod (Value.str _ _) _ _) _ _ _); (k_here; with_reducible refine enc_method ?_))) | ((with_reducible show wpAny _ _ (PySem.call (Value.builtin "str.encode") _ _) _ _ _); (k_here; k_dflt ((refine' enc_w (by first | exact .inl ⟨rfl, rfl⟩ | exact .inr ⟨rfl, rfl⟩) (by k_asm) (by k_asm) (by k_asm) (by lia) (by lia) ?_); intro h9 tk9 t9 F9 N9))) | ((k_here; k_dflt ((with_reducible show wpAny _ _ (PySem.call (Value.ref 276) _ _) _ _ _); (refine' oc4_c (by k_asm) (by k_asm) (by k_asm) (by k_asm) (by k_asm) (by first | exact rfl | assumption) (by cb_room) (by cb_room) (by ktr_room) (by ktr_room) ?_); intro d9 t9 h9 tk9 e9 F9 N9; (try dsimp only); (try k_fold)))) | ((k_here; (with_reducible show wpAny _ _ (call (Value.builtin "len") [Value.ref _]) _ _ _); k_dflt (refine len_memL (by k_asm) (by repeat (first | assumption | exact .head _ | refine .tail _ ?_)) (by first | lia | (simp only [List.size_toArray]; lia)) ?_))) | ((k_here; (with_reducible show wpAny _ _ (eval (Expr.Name _ _) (envX _ _ _ _ _ _)) _ _ _); k_dflt (refine nameX_L (by k_asm) (by with_reducible assumption) ?_))) | (k_unfold; (try dsimp only)) | (k_end; wrow_close) | walk1 | (dsimp only; walk1))))
  have hS : PyProof.Rows.LCg.SrcAt h₀ rl rvs.toArray news := .inr ⟨_, mr, rfl, _, rfl⟩
  refine ⟨J4 m news os pa rws, rl, rvs.toArray, m, news, rfl, rfl, F, N, hS, ?hT, ⟨rfl, _, _, _, _, _, j4_0 ho, by simpa using hoi⟩, ?step, ?fin⟩
  case hT =>
    intro i v hv
    obtain ⟨r, ri, x, y, z, _, e, _⟩ := hrow i v (by simpa using hv)
    exact ⟨ri, e⟩
  case step =>
    intro j v I oI m₁ news₁ h tk hj hP hJ hS₁ F₁ N₁ off₁
    obtain ⟨rfl, o2, to2, a1, a2, a3, rfl, hob⟩ := hJ
    obtain ⟨r, ri, x, y, z, hrj, rfl, mri, hb0, hb1, hl0, hl1⟩ := hrow j v (by simpa using hP)
    have hjl : j < rws.length := (List.getElem?_eq_some_iff.mp hrj).1
    have htk : (rws.take (j + 1)).flatMap (rowB pa) = (rws.take j).flatMap (rowB pa) ++ rowB pa r := by
      obtain ⟨hl, e⟩ := List.getElem?_eq_some_iff.mp hrj
      rw [List.take_succ_eq_append_getElem hl, List.flatMap_append, e]
      simp
    have hlt : ((rws.take j).flatMap (rowB pa)).length ≤ 32 := by rw [rows_len, List.length_take]; lia
    have kt : (ri, tupO #[.str (tagStr r.1) x, .int r.2.1 y, .int r.2.2 z]) ∈ (I, oI) :: news₁ := .tail _ mri
    repeat' (first | ((fail_if_success (with_reducible show wpAny _ _ (execs (_ :: _) _) _ _ _)); (first | (with_reducible ((with_reducible show wpAny _ _ (getMethod (Value.str _ _) _ _) _ _ _); (k_here; with_reducible refine enc_method ?_))) | ((with_reducible show wpAny _ _ (PySem.call (Value.builtin "str.encode") _ _) _ _ _); (k_here; k_dflt ((refine' enc_w (by first | exact .inl ⟨rfl, rfl⟩ | exact .inr ⟨rfl, rfl⟩) (by k_asm) (by k_asm) (by k_asm) (by lia) (by lia) ?_); intro h9 tk9 t9 F9 N9))) | ((k_here; k_dflt ((with_reducible show wpAny _ _ (PySem.call (Value.ref 276) _ _) _ _ _); (refine' oc4_c (by k_asm) (by k_asm) (by k_asm) (by k_asm) (by k_asm) (by first | exact rfl | assumption) (by cb_room) (by cb_room) (by ktr_room) (by ktr_room) ?_); intro d9 t9 h9 tk9 e9 F9 N9; (try dsimp only); (try k_fold)))) | ((k_here; (with_reducible show wpAny _ _ (call (Value.builtin "len") [Value.ref _]) _ _ _); k_dflt (refine len_memL (by k_asm) (by repeat (first | assumption | exact .head _ | refine .tail _ ?_)) (by first | lia | (simp only [List.size_toArray]; lia)) ?_))) | ((k_here; (with_reducible show wpAny _ _ (eval (Expr.Name _ _) (envX _ _ _ _ _ _)) _ _ _); k_dflt (refine nameX_L (by k_asm) (by with_reducible assumption) ?_))) | (k_unfold; (try dsimp only)) | (k_end; wrow_close) | walk1 | (dsimp only; walk1))))
    (rename Fr _ _ _ _ => F3)
    (rename News _ _ _ _ => N3)
    obtain ⟨m₂, e₂, F4⟩ := fr_abs F3
    have q1 : m₂ (Str.ofString "octets") = some (.bytes o2 to2) := by rw [e₂]; rfl
    have q2 : m₂ (Str.ofString "tag") = some (.str (tagStr r.1) x) := by rw [e₂]; rfl
    have q3 : m₂ (Str.ofString "begin") = some (.int r.2.1 y) := by rw [e₂]; rfl
    have q4 : m₂ (Str.ofString "length") = some (.int r.2.2 z) := by rw [e₂]; rfl
    have q5 : m₂ (Str.ofString "pool_at") = some (.int pa tpa) := by rw [e₂]; exact hp
    clear F3 kt
    have hol2 : (os ++ (rws.take j).flatMap (rowB pa)).length ≤ 10032 := by rw [List.length_append]; lia
    generalize hos2 : os ++ (rws.take j).flatMap (rowB pa) = os2 at hob hol2
    obtain ⟨bt, rb, rl2⟩ := r
    dsimp only at q2 q3 q4 hb0 hb1 hl0 hl1 mri
    cases bt
    all_goals (
      (first
        | (have q6 : m₂ (Str.ofString "tag") = some (.str (Str.ofString "cmap") x) := q2; clear q2)
        | (have q6 : m₂ (Str.ofString "tag") = some (.str (Str.ofString "post") x) := q2; clear q2))
      (repeat' (first | (with_reducible ((with_reducible show wpAny _ _ (getMethod (Value.str _ _) _ _) _ _ _); (k_here; with_reducible refine enc_method ?_))) | ((with_reducible show wpAny _ _ (PySem.call (Value.builtin "str.encode") _ _) _ _ _); (k_here; k_dflt ((refine' enc_w (by first | exact .inl ⟨rfl, rfl⟩ | exact .inr ⟨rfl, rfl⟩) (by k_asm) (by k_asm) (by k_asm) (by lia) (by lia) ?_); intro h9 tk9 t9 F9 N9))) | ((k_here; k_dflt ((with_reducible show wpAny _ _ (PySem.call (Value.ref 276) _ _) _ _ _); (refine' oc4_c (by k_asm) (by k_asm) (by k_asm) (by k_asm) (by k_asm) (by first | exact rfl | assumption) (by cb_room) (by cb_room) (by ktr_room) (by ktr_room) ?_); intro d9 t9 h9 tk9 e9 F9 N9; (try dsimp only); (try k_fold)))) | ((k_here; (with_reducible show wpAny _ _ (call (Value.builtin "len") [Value.ref _]) _ _ _); k_dflt (refine len_memL (by k_asm) (by repeat (first | assumption | exact .head _ | refine .tail _ ?_)) (by first | lia | (simp only [List.size_toArray]; lia)) ?_))) | ((k_here; (with_reducible show wpAny _ _ (eval (Expr.Name _ _) (envX _ _ _ _ _ _)) _ _ _); k_dflt (refine nameX_L (by k_asm) (by with_reducible assumption) ?_))) | (k_unfold; (try dsimp only)) | (k_end; wrow_close) | walk1 | (dsimp only; walk1) | (leave1; walk_say "STEP leave1"; try dsimp only) | fail "no step"))
      (rename KBw.bInts _ = _ ++ [_, _, _, _] => kz)
      (rename Fr _ _ _ _ => F9)
      (rename News _ _ _ _ => N9)
      subst e₂
      refine StepW.mk F9 N9 off₁ ⟨⟨rfl, _, _, _, _, _, j4_s, ?_⟩, hS₁⟩
      rw [htk, ← List.append_assoc, hos2, kz]
      simp [rowB, tagCodes, be4])
  case fin =>
    intro h' tk' m' news' F₂ N₂ hJ
    obtain ⟨rfl, o2, to2, a1, a2, a3, rfl, hob⟩ := hJ
    rw [List.size_toArray, hlen, List.take_length] at hob
    exact hret o2 to2 a1 a2 a3 h' tk' hob F₂ N₂
end
end
section
theorem part22 : True := by
  w_top off
  trivial
noncomputable def lawWt : PySem.Expr := match lawS 9 with
  | .While test _ _ _ => test
  | _ => default
section
variable {w : World} {mean : ExcName → Option Value} {mg mb : PySem.Str → Option Value} {dp un : Nat} {gd : Option (List Code)} {a : Addr} {ccd : Value} {outer : List Env} {A₀ : Around} {base h₀ : Heap} {L : Addr} {m : PySem.Str → Option Value} {s : Shared} {Q : PySem.Flow → Shared → Prop} {E : Value → Shared → Prop}
set_option maxRecDepth 100000 in
set_option maxHeartbeats 8000000 in
theorem wt {lf : Addr} {lvs : List Value} {nl : Nat} {ls : List Int} {news : List (Addr × Obj)} {QB : Bool → Shared → Prop}
  (B : Below A₀ base outer h₀) (F : Fr h₀ L s.heap m) (X : (Mine.hd.heap_39 w.params).In h₀) (N : News h₀ L s.heap (news)) (T : Top Mine.hd.view_39 (looseW Mine.hd.view_39 [Str.ofString "ShapeError", Str.ofString "VERSIONS"]) mean mg mb h₀)
  (hd : dp ≤ 310) (hu : un ≤ 1200) (ml : (lf, W.listOf lvs.toArray nl) ∈ news) (hl : m (Str.ofString "left") = some (.ref lf)) (hli : IntsAre lvs ls) (hl2 : ls.length ≤ 3)
  (hret : ∀ h' tk', Fr h₀ L h' m → News h₀ L h' news → QB (decide (ls ≠ [])) { s with heap := h', toks := tk' }) :
  wpAny (model PySem.Challenge.rw_pb0178_01.row.prog w) (ktrTop dp un gd lawN lawSc L a ccd (lawCl L) outer) (isTrue lawWt (envX lawN lawSc L a ccd (lawCl L)) (eval lawWt (envX lawN lawSc L a ccd (lawCl L)))) QB E s := by
  have hll := hli.length
  with_unfolding_all (show wpAny _ _ (isTrue (Expr.Compare _ _ _ _) _ (eval (Expr.Compare _ _ _ _) _)) _ _ _)
  (repeat' (first | ((k_here; (with_reducible show wpAny _ _ (call (Value.builtin "len") [Value.ref _]) _ _ _); k_dflt (refine len_memL (by k_asm) (by repeat (first | assumption | exact .head _ | refine .tail _ ?_)) (by first | lia | (simp only [List.size_toArray]; lia)) ?_))) | ((k_here; (with_reducible show wpAny _ _ (eval (Expr.Name _ _) (envX _ _ _ _ _ _)) _ _ _); k_dflt (refine nameX_L (by k_asm) (by with_reducible assumption) ?_))) | (k_unfold; (try dsimp only)) | (k_end; wrow_close) | walk1 | (dsimp only; walk1) | (leave1; walk_say "STEP leave1"; try dsimp only) | fail "no step"))
  (rename News _ _ _ _ => nR)
  (rename Fr _ _ _ _ => fR)
  refine PySem.W.ke_ne_ints ⟨_, nR.get (.tail _ ml), rfl, nl, rfl⟩ ⟨_, nR.get (.head _), rfl, 0, rfl⟩ hli .nil (by ktr_room) ?_
  refine wpAny_truthy_bool ?_
  have e : (!decide (ls = [])) = decide (ls ≠ []) := by by_cases h : ls = [] <;> simp [h]
  rw [e]
  exact hret _ _ fR (news_drop nR)
end
end
section
noncomputable def lawWB : List Stmt := match lawS 9 with
  | .While _ body _ _ => body
  | _ => []
theorem lawWB_eq : lawWB = [lawW 0, lawW 1, lawW 2, lawW 3, lawW 4, lawW 5] := by kernel_rfl
structure Kept9 (m m' : PySem.Str → Option Value) : Prop where
  left : m' (Str.ofString "left") = m (Str.ofString "left")
  pool_at : m' (Str.ofString "pool_at") = m (Str.ofString "pool_at")
  begun : m' (Str.ofString "begun") = m (Str.ofString "begun")
  ahead : m' (Str.ofString "is_ahead") = m (Str.ofString "is_ahead")
  order : m' (Str.ofString "order") = m (Str.ofString "order")
theorem ne_cons {d : Addr} {q : Addr × Obj} {l : List (Addr × Obj)} (h : @Ne Nat q.1 d) (t : ∀ p ∈ l, p.1 ≠ d) : ∀ p ∈ q :: l, p.1 ≠ d := fun p hp => by
  rcases List.mem_cons.mp hp with rfl | hp
  · exact h
  · exact t p hp
theorem rotA {h₀ h : Heap} {L : Addr} {t c a1 a2 a3 a4 p l : Addr × Obj} {R : List (Addr × Obj)} (N : News h₀ L h (t :: c :: a1 :: a2 :: a3 :: a4 :: p :: l :: R)) : News h₀ L h (t :: c :: l :: a1 :: a2 :: a3 :: a4 :: p :: R) := fun q hq => N q (by
  refine List.subset_def.mp ?_ hq
  repeat (first | refine List.cons_subset.mpr ⟨by repeat (first | exact .head _ | refine .tail _ ?_), ?_⟩ | refine List.append_subset.mpr ⟨?_, ?_⟩)
  all_goals first | exact List.nil_subset _ | exact fun _ h => by repeat (first | exact h | exact List.mem_append_left _ h | refine .tail _ ?_ | refine List.mem_append_right _ ?_))
theorem rotB {h₀ h : Heap} {L : Addr} {t c a1 a2 a3 a4 p l : Addr × Obj} {R : List (Addr × Obj)} (N : News h₀ L h (t :: c :: l :: a1 :: a2 :: a3 :: a4 :: p :: R)) : News h₀ L h (p :: t :: c :: l :: a1 :: a2 :: a3 :: a4 :: R) := fun q hq => N q (by
  refine List.subset_def.mp ?_ hq
  repeat (first | refine List.cons_subset.mpr ⟨by repeat (first | exact .head _ | refine .tail _ ?_), ?_⟩ | refine List.append_subset.mpr ⟨?_, ?_⟩)
  all_goals first | exact List.nil_subset _ | exact fun _ h => by repeat (first | exact h | exact List.mem_append_left _ h | refine .tail _ ?_ | refine List.mem_append_right _ ?_))
theorem rotC {h₀ h : Heap} {L : Addr} {t c a1 a2 a3 a4 p l : Addr × Obj} {R : List (Addr × Obj)} (N : News h₀ L h (p :: t :: c :: l :: a1 :: a2 :: a3 :: a4 :: R)) : News h₀ L h (t :: c :: a1 :: a2 :: a3 :: a4 :: p :: l :: R) := fun q hq => N q (by
  refine List.subset_def.mp ?_ hq
  repeat (first | refine List.cons_subset.mpr ⟨by repeat (first | exact .head _ | refine .tail _ ?_), ?_⟩ | refine List.append_subset.mpr ⟨?_, ?_⟩)
  all_goals first | exact List.nil_subset _ | exact fun _ h => by repeat (first | exact h | exact List.mem_append_left _ h | refine .tail _ ?_ | refine List.mem_append_right _ ?_))
noncomputable def J9 (w : World) (L tp c pd lf : Addr) (vs : List Value) (n' : Nat) (o1 o2 o3 o4 : Obj) (R : List (Addr × Obj)) (i0 pa bg : Int) (fs : List FSpec) (pre : List Int) (m : PySem.Str → Option Value) (k : Nat) (m' : PySem.Str → Option Value) (news : List (Addr × Obj)) : Prop :=
  ∃ i ti nt od kvs lvs nl ls o to os, k = ls.length ∧ news = ((tp, listOf #[.ref c, .int i ti] nt) :: (c, listOf vs.toArray n') :: (L + 1, o1) :: (L + 1 + 1, o2) :: (L + 1 + 1 + 1, o3) :: (L + 1 + 1 + 1 + 1, o4) :: (pd, od) :: (lf, listOf (List.toArray lvs) nl) :: R) ∧ IntsAre lvs ls ∧ Obj.IsDictOf (intKind PySem.Challenge.rw_pb0178_01.row.prog w) od kvs ∧ Laid pa bg fs pre kvs ls os ∧ KBw.bInts o = os ∧ i0 ≤ i ∧ i + ls.length ≤ i0 + fs.length ∧ m' (Str.ofString "octets") = some (.bytes o to) ∧ Kept9 m m'
section
variable {w : World} {mean : ExcName → Option Value} {mg mb : PySem.Str → Option Value} {dp un : Nat} {gd : Option (List Code)} {a : Addr} {ccd : Value} {outer : List Env} {A₀ : Around} {base h₀ : Heap} {L : Addr} {m : PySem.Str → Option Value} {s : Shared} {Q : PySem.Flow → Shared → Prop} {E : Value → Shared → Prop}
set_option maxRecDepth 100000 in
set_option maxHeartbeats 8000000 in
theorem st9 {tp c pd lf fl : Addr} {vs lvs fvs : List Value} {ns : List Int} {i : Int} {ti to : Tok} {n n' nl fn : Nat} {o1 o2 o3 o4 od : Obj} {R : List (Addr × Obj)} {fs : List FSpec} {pa bg : Int} {tpa tbg : Tok} {o : Array UInt8} {pre : List Int}
  (B : Below A₀ base outer h₀) (F : Fr h₀ L s.heap m) (X : (Mine.hd.heap_39 w.params).In h₀) (N : News h₀ L s.heap ((tp, listOf #[.ref c, .int i ti] n) :: (c, listOf vs.toArray n') :: (L + 1, o1) :: (L + 1 + 1, o2) :: (L + 1 + 1 + 1, o3) :: (L + 1 + 1 + 1 + 1, o4) :: (pd, od) :: (lf, listOf (List.toArray lvs) nl) :: R)) (T : Top Mine.hd.view_39 (looseW Mine.hd.view_39 [Str.ofString "ShapeError", Str.ofString "VERSIONS"]) mean mg mb h₀)
  (hd : dp ≤ 310) (hu : un ≤ 1200) (hi : IntsAre vs ns) (hn1 : 1 ≤ ns.length) (hn2 : ns.length ≤ 60) (d1 : o1.data = .cell (some (.ref tp))) (d2 : o2.data = .cell (some (.ref fl))) (d4 : o4.data = .cell (some (.ref pd))) (htp : @LT.lt Nat _ (L + 1 + 1 + 1 + 1) tp) (htc : @LT.lt Nat _ (L + 1 + 1 + 1 + 1) c) (hct : @Ne Nat c tp) (off : LawOff L tp c R) (hpl : AllNe pd [tp, c, L + 1, L + 1 + 1, L + 1 + 1 + 1, L + 1 + 1 + 1 + 1, lf]) (hll : AllNe lf [tp, c, L + 1, L + 1 + 1, L + 1 + 1 + 1, L + 1 + 1 + 1 + 1]) (offP : ∀ p ∈ R, p.1 ≠ pd) (offF : ∀ p ∈ R, p.1 ≠ lf) (mf : (fl, W.listOf fvs.toArray fn) ∈ R) (hf : Fonts R fvs fs) (hok : ∀ f ∈ fs, FSpec.Ok f) (hf1 : 1 ≤ fs.length) (hf2 : fs.length ≤ 3) (hli : IntsAre lvs (upTo fs.length)) (hkv : Obj.IsDictOf (intKind PySem.Challenge.rw_pb0178_01.row.prog w) od []) (h0 : 0 ≤ i) (h1 : i < 180) (hl : m (Str.ofString "left") = some (.ref lf)) (hp : m (Str.ofString "pool_at") = some (.int pa tpa)) (hb : m (Str.ofString "begun") = some (.int bg tbg)) (ho : m (Str.ofString "octets") = some (.bytes o to)) (hoi : KBw.bInts o = pre) (hpre : pre.length ≤ 100) (hpa : 0 ≤ pa) (hpa2 : pa ≤ 2000) (hbg : 0 ≤ bg) (hbg2 : bg ≤ 1000) (hE : PassesOwn (model PySem.Challenge.rw_pb0178_01.row.prog w) (ktrTop dp un gd lawN lawSc L a ccd (lawCl L) outer) (envX lawN lawSc L a ccd (lawCl L)) E)
  (hret : ∀ i' ti' nt' od' kvs lvs' nl' o' to' os' m' h' tk', i ≤ i' → i' ≤ i + 3 → Obj.IsDictOf (intKind PySem.Challenge.rw_pb0178_01.row.prog w) od' kvs → Laid pa bg fs pre kvs [] os' → KBw.bInts o' = os' → m' (Str.ofString "octets") = some (.bytes o' to') → Kept9 m m' → Fr h₀ L h' m' → News h₀ L h' ((tp, listOf #[.ref c, .int i' ti'] nt') :: (c, listOf vs.toArray n') :: (L + 1, o1) :: (L + 1 + 1, o2) :: (L + 1 + 1 + 1, o3) :: (L + 1 + 1 + 1 + 1, o4) :: (pd, od') :: (lf, listOf (List.toArray lvs') nl') :: R) → Q .next { s with heap := h', toks := tk' }) :
  wpAny (model PySem.Challenge.rw_pb0178_01.row.prog w) (ktrTop dp un gd lawN lawSc L a ccd (lawCl L) outer) (exec (lawS 9) (envX lawN lawSc L a ccd (lawCl L))) Q E s := by
  have offT := off.t
  obtain ⟨p1, p2, p3, p4, p5, p6, p7, -⟩ := hpl
  obtain ⟨q1, q2, q3, q4, q5, q6, -⟩ := hll
  have p1 : @Ne Nat pd tp := p1
  have p7 : @Ne Nat pd lf := p7
  have hfl := hf.len
  with_unfolding_all (show wpAny _ _ (exec (Stmt.While lawWt lawWB [] _) _) _ _ _)
  refine While_inv (J9 w L tp c pd lf vs n' o1 o2 o3 o4 R i pa bg fs pre m) F N ⟨i, ti, n, od, [], lvs, nl, upTo fs.length, o, to, pre, rfl, rfl, hli, hkv, Laid.start _ _ _ _, hoi, by lia, by rw [upTo_len]; lia, ho, rfl, rfl, rfl, rfl, rfl⟩ ?turn hE
  intro k m₁ news₁ h₁ tk₁ F₁ N₁ J₁
  obtain ⟨i1, t1, n1, od1, kvs, lv1, nl1, ls, ob, tob, os, rfl, rfl, hli1, hkv1, hLd, hob, hi0, hi1, ho1, K1⟩ := J₁
  have hll3 : ls.length ≤ 3 := by have := hLd.len; lia
  refine wt B F₁ X N₁ T hd hu (.tail _ (.tail _ (.tail _ (.tail _ (.tail _ (.tail _ (.tail _ (.head _)))))))) (K1.left.trans hl) hli1 hll3 ?_
  intro h₂ tk₂ F₂ N₂
  by_cases hnil : ls = []
  · subst hnil
    rw [if_neg (by simp)]
    exact hret _ _ _ _ _ _ _ _ _ _ _ _ _ hi0 (by simp at hi1; lia) hkv1 hLd hob ho1 K1 F₂ N₂
  rw [if_pos (by simpa using hnil), lawWB_eq]
  have hl1 : 1 ≤ ls.length := List.length_pos_iff.mpr hnil
  have hosl := hLd.le hf2
  have offR1 : OwnOff ((L + 1, o1) :: (L + 1 + 1, o2) :: (L + 1 + 1 + 1, o3) :: (L + 1 + 1 + 1 + 1, o4) :: (pd, od1) :: R) [tp] := own_cons ⟨by lia, trivial⟩ (own_cons ⟨by lia, trivial⟩ (own_cons ⟨by lia, trivial⟩ (own_cons ⟨by lia, trivial⟩ (own_cons ⟨p1, trivial⟩ off.t))))
  -- spot
  refine wpAny_execs_cons ?_
  refine w0 B F₂ X (rotA N₂) T hd hu hi hn1 hn2 (.tail _ (.tail _ (.tail _ (.head _)))) d1 hct q1 q2 offR1 (ne_cons (Ne.symm q3) (ne_cons (Ne.symm q4) (ne_cons (Ne.symm q5) (ne_cons (Ne.symm q6) (ne_cons p7 offF))))) (K1.left.trans hl) hli1 hl1 hll3 (by lia) (by lia) ?_
  intro k hk lv3 ts t3 n3 nl3 h₃ tk₃ hli3 F₃ N₃
  obtain ⟨z, hz, hze, hzv⟩ := hLd.at hk
  rw [hze] at F₃
  obtain ⟨m₃, e₃, F₃⟩ := fr_abs F₃
  have s3 : m₃ (Str.ofString "spot") = some (.int (z : Int) ts) := by rw [e₃]; rfl
  have b3 : m₃ (Str.ofString "begun") = some (.int bg tbg) := by rw [e₃]; exact K1.begun.trans hb
  have c3 : m₃ (Str.ofString "octets") = some (.bytes ob tob) := by rw [e₃]; exact ho1
  have a3 : m₃ (Str.ofString "pool_at") = some (.int pa tpa) := by rw [e₃]; exact K1.pool_at.trans hp
  -- version, rows
  have hzf : z < fvs.length := by lia
  obtain ⟨f, hff, hfo⟩ := hf.get z fvs[z] (List.getElem?_eq_getElem hzf)
  obtain rfl : fs[z] = f := by rw [List.getElem?_eq_getElem hz] at hff; exact Option.some.inj hff
  have hfk := hok _ (List.getElem_mem hz)
  obtain ⟨ft, rl, rvs, rn, tv, hv, mft, mrl, hrl, hrow⟩ := hfo.parts hfk
  have hvk := FSpec.ver_ok hfk
  have hr2 := (fs[z]).rows_le
  have up : ∀ x ∈ R, x ∈ (tp, listOf #[.ref c, .int (i1 + 1) t3] n3) :: (c, listOf vs.toArray n') :: (lf, listOf (List.toArray lv3) nl3) :: (L + 1, o1) :: (L + 1 + 1, o2) :: (L + 1 + 1 + 1, o3) :: (L + 1 + 1 + 1 + 1, o4) :: (pd, od1) :: R := fun x hx => .tail _ (.tail _ (.tail _ (.tail _ (.tail _ (.tail _ (.tail _ (.tail _ hx)))))))
  show wpAny _ _ _ _ _ _
  refine wpAny_execs_cons ?_
  refine w1 B F₃ X N₃ T hd hu (.tail _ (.tail _ (.tail _ (.tail _ (.head _))))) d2 (up _ mf) s3 (by lia) (by rw [List.getElem?_eq_getElem hzf, hv]) (up _ mft) ?_
  intro h₄ tk₄ F₄ N₄
  obtain ⟨m₄, e₄, F₄⟩ := fr_abs F₄
  have r4 : m₄ (Str.ofString "rows") = some (.ref rl) := by rw [e₄]; rfl
  have v4 : m₄ (Str.ofString "version") = some (.int (fs[z]).ver tv) := by rw [e₄]; rfl
  have s4 : m₄ (Str.ofString "spot") = some (.int (z : Int) ts) := by rw [e₄]; exact s3
  have b4 : m₄ (Str.ofString "begun") = some (.int bg tbg) := by rw [e₄]; exact b3
  have c4 : m₄ (Str.ofString "octets") = some (.bytes ob tob) := by rw [e₄]; exact c3
  have a4 : m₄ (Str.ofString "pool_at") = some (.int pa tpa) := by rw [e₄]; exact a3
  -- places[spot]
  show wpAny _ _ _ _ _ _
  refine wpAny_execs_cons ?_
  refine w2 B F₄ X (rotB N₄) T hd hu (.tail _ (.tail _ (.tail _ (.tail _ (.tail _ (.tail _ (.tail _ (.head _)))))))) d4 (ne_cons (Ne.symm p1) (ne_cons (Ne.symm p2) (ne_cons (Ne.symm p7) (ne_cons (Ne.symm p3) (ne_cons (Ne.symm p4) (ne_cons (Ne.symm p5) (ne_cons (Ne.symm p6) offP))))))) s4 b4 c4 hob (by lia) hbg hbg2 hkv1 (by have := hLd.len; lia) ?_
  intro od5 t5 h₅ tk₅ hkv5 F₅ N₅
  have hL5 := hLd.step hk hz hze t5
  -- the head of the directory
  show wpAny _ _ _ _ _ _
  refine wpAny_execs_cons ?_
  have up5 : ∀ x ∈ R, x ∈ (pd, od5) :: (tp, listOf #[.ref c, .int (i1 + 1) t3] n3) :: (c, listOf vs.toArray n') :: (lf, listOf (List.toArray lv3) nl3) :: (L + 1, o1) :: (L + 1 + 1, o2) :: (L + 1 + 1 + 1, o3) :: (L + 1 + 1 + 1 + 1, o4) :: R := fun x hx => .tail _ (.tail _ (.tail _ (.tail _ (.tail _ (.tail _ (.tail _ (.tail _ hx)))))))
  refine w3 B F₅ X N₅ T hd hu (up5 _ mrl) (by rw [List.size_toArray]; lia) r4 v4 c4 hob (by lia) (by rcases hvk with h | h | h <;> lia) (by rcases hvk with h | h | h <;> lia) ?_
  intro o6 to6 h₆ tk₆ hob6 F₆ N₆
  obtain ⟨m₆, e₆, F₆⟩ := fr_abs F₆
  have c6 : m₆ (Str.ofString "octets") = some (.bytes o6 to6) := by rw [e₆]; rfl
  have r6 : m₆ (Str.ofString "rows") = some (.ref rl) := by rw [e₆]; exact r4
  have a6 : m₆ (Str.ofString "pool_at") = some (.int pa tpa) := by rw [e₆]; exact a4
  -- the rows
  show wpAny _ _ _ _ _ _
  refine wpAny_execs_cons ?_
  have hl6 : (os ++ be4 (fs[z]).ver ++ be2 (rvs.toArray.size : Int) ++ [120, 120, 120, 120, 120, 120]).length ≤ 300 := by simp [be4, be2]; lia
  refine w4 B F₆ X N₆ T hd hu (up5 _ mrl) hrl hr2 (fun i v hv => ?rows) r6 a6 c6 hob6 (by lia) hpa hpa2 hE ?_
  case rows =>
    obtain ⟨r, ri, x, y, z, g1, g2, g3, g4, g5, g6, g7⟩ := hrow i v hv
    exact ⟨r, ri, x, y, z, g1, g2, up5 _ g3, g4, g5, g6, g7⟩
  intro o7 to7 x1 x2 x3 h₇ tk₇ hob7 F₇ N₇
  obtain ⟨m₇, e₇, F₇⟩ := fr_abs F₇
  have c7 : m₇ (Str.ofString "octets") = some (.bytes o7 to7) := by rw [e₇]; rfl
  have hl7 : ((os ++ be4 (fs[z]).ver ++ be2 (rvs.toArray.size : Int) ++ [120, 120, 120, 120, 120, 120]) ++ (fs[z]).rows.flatMap (rowB pa)).length ≤ 400 := by rw [List.length_append, rows_len]; lia
  -- the gap
  show wpAny _ _ _ _ _ _
  refine wpAny_execs_cons ?_
  refine w5 B F₇ X N₇ T hd hu c7 hob7 (by lia) ?_
  intro o8 to8 h₈ tk₈ hob8 F₈ N₈
  obtain ⟨m₈, e₈, F₈⟩ := fr_abs F₈
  show wpAny _ _ _ _ _ _
  refine wpAny_execs_nil ?_
  have hcount : ls.length = (ls.take k ++ ls.drop (k + 1)).length + 1 := by
    rw [List.length_append, List.length_take, List.length_drop]; lia
  refine WhileStep.intro F₈ (rotC N₈) (n' := (ls.take k ++ ls.drop (k + 1)).length) (by lia) ⟨i1 + 1, t3, n3, od5, _, lv3, nl3, ls.take k ++ ls.drop (k + 1), o8, to8, _, rfl, rfl, hli3, hkv5, hL5, ?oct, by lia, by lia, by rw [e₈]; rfl, ?kept⟩
  case oct =>
    rw [hob8, FSpec.bytes, List.size_toArray, hrl]
    simp only [List.append_assoc]
  case kept =>
    refine ⟨?_, ?_, ?_, ?_, ?_⟩
    · rw [e₈, e₇, e₆, e₄, e₃]; exact K1.left
    · rw [e₈, e₇, e₆, e₄, e₃]; exact K1.pool_at
    · rw [e₈, e₇, e₆, e₄, e₃]; exact K1.begun
    · rw [e₈, e₇, e₆, e₄, e₃]; exact K1.ahead
    · rw [e₈, e₇, e₆, e₄, e₃]; exact K1.order
end
end
section
theorem part23 : True := by
  w_top off
  trivial
noncomputable def FSpec.res (ps : List Int) (f : FSpec) : FRes := ⟨f.ver, f.rows.map fun r => cut ps r.2.1 r.2.2⟩
inductive Cuts (ps : List Int) : List (Addr × Obj) → List Value → List (Bool × Int × Int) → Prop
  | nil : Cuts ps [] [] []
  | snoc {T : List (Addr × Obj)} {ys : List Value} {rs : List (Bool × Int × Int)} {p : Addr} {b : Array UInt8} {k u : Tok} {r : Bool × Int × Int} (h : Cuts ps T ys rs) (hb : KBw.bInts b = cut ps r.2.1 r.2.2) : Cuts ps ((p, tupO #[.str (tagStr r.1) k, .bytes b u]) :: T) (ys ++ [.ref p]) (rs ++ [r])
noncomputable def J14c (ps : List Int) (nb : List (Addr × Obj)) (rows : List (Bool × Int × Int)) (i : Nat) (ys : List Value) (news : List (Addr × Obj)) : Prop :=
  ∃ T, news = T ++ nb ∧ Cuts ps T ys (rows.take i)
noncomputable def J14 (w : World) (ps : List Int) (dl : Addr) (nb : List (Addr × Obj)) (fr : List FRes) (m : PySem.Str → Option Value) (i : Nat) (m' : PySem.Str → Option Value) (news : List (Addr × Obj)) : Prop :=
  ∃ R dvs a, news = (dl, PyProof.Rows.LCg.lst dvs) :: (R ++ nb) ∧ Items w (R ++ nb) dvs (fr.take i) ∧ (∀ p ∈ R ++ nb, p.1 ≠ dl) ∧ m' = fun y => if y = Str.ofString "spot" then a else m y
theorem j14_0 {m : PySem.Str → Option Value} : m = fun y => if y = Str.ofString "spot" then m (Str.ofString "spot") else m y := by
  funext y
  split
  · next h => rw [h]
  · rfl
theorem j14_s {m : PySem.Str → Option Value} {a b : Option Value} : (fun y => if y = Str.ofString "spot" then b else if y = Str.ofString "spot" then a else m y) = fun y => if y = Str.ofString "spot" then b else m y := by
  funext y
  split <;> rfl
theorem cuts_snoc {ps : List Int} {T : List (Addr × Obj)} {ys : List Value} {rs qs : List (Bool × Int × Int)} {r : Bool × Int × Int} (h : Cuts ps T ys qs) (e : qs = rs ++ [r]) : ∃ T' ys' p b k u, T = (p, tupO #[.str (tagStr r.1) k, .bytes b u]) :: T' ∧ ys = ys' ++ [.ref p] ∧ KBw.bInts b = cut ps r.2.1 r.2.2 ∧ Cuts ps T' ys' rs := by
  cases h with
  | nil => simp at e
  | @snoc T ys rs' p b k u r' h hb =>
    obtain ⟨e1, e2⟩ := List.append_inj' e rfl
    obtain rfl := e1
    obtain rfl : r' = r := by simpa using e2
    exact ⟨T, ys, p, b, k, u, rfl, rfl, hb, h⟩
theorem cuts_nil {ps : List Int} {T : List (Addr × Obj)} {ys : List Value} {qs : List (Bool × Int × Int)} (h : Cuts ps T ys qs) (e : qs = []) : T = [] ∧ ys = [] := by
  cases h with
  | nil => exact ⟨rfl, rfl⟩
  | snoc h hb => simp at e
theorem cuts1 {ps : List Int} {T : List (Addr × Obj)} {ys : List Value} {r : Bool × Int × Int} (h : Cuts ps T ys [r]) : ∃ p b k u, T = [(p, tupO #[.str (tagStr r.1) k, .bytes b u])] ∧ ys = [.ref p] ∧ KBw.bInts b = cut ps r.2.1 r.2.2 := by
  obtain ⟨T', ys', p, b, k, u, rfl, rfl, hb, h'⟩ := cuts_snoc (rs := []) h rfl
  obtain ⟨rfl, rfl⟩ := cuts_nil h' rfl
  exact ⟨p, b, k, u, rfl, rfl, hb⟩
theorem cuts2 {ps : List Int} {T : List (Addr × Obj)} {ys : List Value} {r q : Bool × Int × Int} (h : Cuts ps T ys [r, q]) : ∃ p b k u p2 b2 k2 u2, T = [(p2, tupO #[.str (tagStr q.1) k2, .bytes b2 u2]), (p, tupO #[.str (tagStr r.1) k, .bytes b u])] ∧ ys = [.ref p, .ref p2] ∧ KBw.bInts b = cut ps r.2.1 r.2.2 ∧ KBw.bInts b2 = cut ps q.2.1 q.2.2 := by
  obtain ⟨T', ys', p2, b2, k2, u2, rfl, rfl, hb2, h'⟩ := cuts_snoc (rs := [r]) h rfl
  obtain ⟨p, b, k, u, rfl, rfl, hb⟩ := cuts1 h'
  exact ⟨p, b, k, u, p2, b2, k2, u2, rfl, rfl, hb, hb2⟩
theorem clip_cut {ps : List Int} {b l : Int} (h0 : 0 ≤ b) (h1 : 0 ≤ l) (h2 : b + l ≤ (ps.length : Int)) : List.take (clipAt ps.length (b + l) - clipAt ps.length b) (List.drop (clipAt ps.length b) ps) = cut ps b l := by
  have e : ∀ i : Int, 0 ≤ i → i ≤ (ps.length : Int) → clipAt ps.length i = i.toNat := fun i a b => by
    unfold clipAt
    rw [if_neg (by lia)]
    lia
  rw [e _ (by lia) h2, e _ h0 (by lia)]
  unfold cut
  congr 1
  lia
theorem comp_new {h₀ h' : Heap} {L I C D : Addr} {m : PySem.Str → Option Value} {s₁ : Shared} {oI oC oD : Obj} {S : List (Addr × Obj) → Prop} {rest : Value → List (Addr × Obj) → Prop} {y : Value} {tk : Nat} {q : Addr × Obj} {r : List (Addr × Obj)}
  (F : Fr h₀ L h' m) (N : News h₀ L h' (q :: (I, oI) :: (C, oC) :: (D, oD) :: r)) (off : PyProof.Rows.LCg.Off3 I C D r) (l1 : @LT.lt Nat _ I q.1) (l2 : @LT.lt Nat _ C q.1) (l3 : @LT.lt Nat _ D q.1) (hS : S (q :: r)) (hr : rest y (q :: r)) :
  PyProof.Rows.LCg.CompEnd h₀ L m s₁ I oI C oC D oD S rest y { s₁ with heap := h', toks := tk } :=
  PyProof.Rows.LCg.CompEnd.intro (all := _) F N (q :: r) (fun p hp => by
    refine List.subset_def.mp ?_ hp
    repeat (first | refine List.cons_subset.mpr ⟨by repeat (first | exact .head _ | refine .tail _ ?_), ?_⟩ | refine List.append_subset.mpr ⟨?_, ?_⟩)
    all_goals first | exact List.nil_subset _ | exact fun _ h => by repeat (first | exact h | exact List.mem_append_left _ h | refine .tail _ ?_ | refine List.mem_append_right _ ?_)) ⟨⟨Nat.ne_of_gt l1, Nat.ne_of_gt l2, Nat.ne_of_gt l3⟩, off⟩ hS hr
theorem app14 {prog : Program} {w : World} {A : Around} {E : Value → Shared → Prop} {s : Shared} {h₀ : Heap} {L I D dl tp dd : Addr} {m : PySem.Str → Option Value} {oI oD dob to : Obj} {T R nb : List (Addr × Obj)} {dvs : List Value} {Q : Value → Shared → Prop}
  (F : Fr h₀ L s.heap m) (N : News h₀ L s.heap ((tp, to) :: (dd, dob) :: (D, oD) :: (T ++ (I, oI) :: (dl, PyProof.Rows.LCg.lst dvs) :: (R ++ nb)))) (lt : @LT.lt Nat _ dd tp ∧ @LT.lt Nat _ D tp ∧ AllLt tp (T ++ (I, oI) :: (dl, PyProof.Rows.LCg.lst dvs) :: (R ++ nb)))
  (hne : ∀ p ∈ (D, oD) :: (T ++ (I, oI) :: (dl, PyProof.Rows.LCg.lst dvs) :: (R ++ nb)), p.1 ≠ dd) (off₁ : ∀ p ∈ (dl, PyProof.Rows.LCg.lst dvs) :: (R ++ nb), p.1 ≠ I) (offR : ∀ p ∈ R ++ nb, p.1 ≠ dl) (hsz : dvs.length ≤ 4)
  (h : ∀ h', Fr h₀ L h' m → News h₀ L h' ((I, oI) :: (dl, PyProof.Rows.LCg.lst (dvs ++ [.ref tp])) :: ((tp, to) :: (dd, dob) :: R ++ nb)) → (∀ p ∈ (dl, PyProof.Rows.LCg.lst (dvs ++ [.ref tp])) :: ((tp, to) :: (dd, dob) :: R ++ nb), p.1 ≠ I) → (∀ p ∈ (tp, to) :: (dd, dob) :: R ++ nb, p.1 ≠ dl) → Q .none { s with heap := h' }) :
  wpAny (model prog w) A (call (.builtin "list.append") [.ref dl, .ref tp]) Q E s := by
  have mI : (I, oI) ∈ T ++ (I, oI) :: (dl, PyProof.Rows.LCg.lst dvs) :: (R ++ nb) := List.mem_append_right _ (.head _)
  have mD : (dl, PyProof.Rows.LCg.lst dvs) ∈ T ++ (I, oI) :: (dl, PyProof.Rows.LCg.lst dvs) :: (R ++ nb) := List.mem_append_right _ (.tail _ (.head _))
  have a1 : @Ne Nat tp I := Nat.ne_of_gt (ktn_ltOf lt.2.2 _ mI)
  have a2 : @Ne Nat tp dl := Nat.ne_of_gt (ktn_ltOf lt.2.2 _ mD)
  have a3 : @Ne Nat dd I := Ne.symm (hne _ (.tail _ mI))
  have a4 : @Ne Nat dd dl := Ne.symm (hne _ (.tail _ mD))
  have a5 : @Ne Nat dl I := off₁ _ (.head _)
  have N' : News h₀ L s.heap ((dl, PyProof.Rows.LCg.lst dvs) :: (I, oI) :: ((tp, to) :: (dd, dob) :: R ++ nb)) := fun p hp => N p (by
    rcases List.mem_cons.mp hp with rfl | hp
    · exact .tail _ (.tail _ (.tail _ mD))
    rcases List.mem_cons.mp hp with rfl | hp
    · exact .tail _ (.tail _ (.tail _ mI))
    rcases List.mem_cons.mp hp with rfl | hp
    · exact .head _
    rcases List.mem_cons.mp hp with rfl | hp
    · exact .tail _ (.head _)
    exact .tail _ (.tail _ (.tail _ (List.mem_append_right _ (.tail _ (.tail _ hp))))))
  refine append_N F N' (ne_cons (Ne.symm a5) (ne_cons a2 (ne_cons a4 offR))) (by rw [sizeLine_eq]; lia) ?_
  intro h' F₂ N₂
  refine h h' F₂ (fun p hp => N₂ p (by
    rcases List.mem_cons.mp hp with rfl | hp
    · exact .tail _ (.head _)
    rcases List.mem_cons.mp hp with rfl | hp
    · exact .head _
    exact .tail _ (.tail _ hp))) (ne_cons a5 (ne_cons a1 (ne_cons a3 fun p hp => off₁ p (.tail _ hp)))) (ne_cons a2 (ne_cons a4 offR))
section
variable {w : World} {mean : ExcName → Option Value} {mg mb : PySem.Str → Option Value} {dp un : Nat} {gd : Option (List Code)} {a : Addr} {ccd : Value} {outer : List Env} {A₀ : Around} {base h₀ : Heap} {L : Addr} {m : PySem.Str → Option Value} {s : Shared} {Q : PySem.Flow → Shared → Prop} {E : Value → Shared → Prop}
set_option maxRecDepth 100000 in
set_option maxHeartbeats 8000000 in
theorem st13 {news : List (Addr × Obj)}
  (B : Below A₀ base outer h₀) (F : Fr h₀ L s.heap m) (X : (Mine.hd.heap_39 w.params).In h₀) (N : News h₀ L s.heap (news)) (T : Top Mine.hd.view_39 (looseW Mine.hd.view_39 [Str.ofString "ShapeError", Str.ofString "VERSIONS"]) mean mg mb h₀)
  (hd : dp ≤ 310) (hu : un ≤ 1200) 
  (hret : ∀ dl h' tk', (∀ q ∈ news, q.1 < dl) → Fr h₀ L h' (fun y => if y = Str.ofString "due" then some (.ref dl) else m y) → News h₀ L h' ((dl, PyProof.Rows.LCg.lst []) :: news) → Q .next { s with heap := h', toks := tk' }) :
  wpAny (model PySem.Challenge.rw_pb0178_01.row.prog w) (ktrTop dp un gd lawN lawSc L a ccd (lawCl L) outer) (exec (lawS 13) (envX lawN lawSc L a ccd (lawCl L))) Q E s := by
  with_unfolding_all (show wpAny _ _ (exec (Stmt.Assign _ _ _) _) _ _ _)
  (repeat' (first | ((k_here; (with_reducible show wpAny _ _ (call (Value.builtin "len") [Value.ref _]) _ _ _); k_dflt (refine len_memL (by k_asm) (by repeat (first | assumption | exact .head _ | refine .tail _ ?_)) (by first | lia | (simp only [List.size_toArray]; lia)) ?_))) | ((k_here; (with_reducible show wpAny _ _ (eval (Expr.Name _ _) (envX _ _ _ _ _ _)) _ _ _); k_dflt (refine nameX_L (by k_asm) (by with_reducible assumption) ?_))) | (k_unfold; (try dsimp only)) | (k_end; wrow_close) | walk1 | (dsimp only; walk1) | (leave1; walk_say "STEP leave1"; try dsimp only) | fail "no step"))
  exact hret _ _ _ (by assumption) (by assumption) (by assumption)
set_option maxRecDepth 100000 in
set_option maxHeartbeats 8000000 in
theorem st14 {ol fl dl : Addr} {ovs fvs : List Value} {ords : List Int} {on fn : Nat} {o2 o3 : Obj} {fs : List FSpec} {pb : Array UInt8} {ps : List Int} {tpb : Tok} {nb : List (Addr × Obj)}
  (B : Below A₀ base outer h₀) (F : Fr h₀ L s.heap m) (X : (Mine.hd.heap_39 w.params).In h₀) (N : News h₀ L s.heap ((dl, PyProof.Rows.LCg.lst []) :: nb)) (T : Top Mine.hd.view_39 (looseW Mine.hd.view_39 [Str.ofString "ShapeError", Str.ofString "VERSIONS"]) mean mg mb h₀)
  (hd : dp ≤ 310) (hu : un ≤ 1200) (mo : (ol, W.listOf ovs.toArray on) ∈ nb) (ho : m (Str.ofString "order") = some (.ref ol)) (hio : IntsAre ovs ords) (hol2 : ords.length ≤ 4) (hor : ∀ z ∈ ords, 0 ≤ z ∧ z < (fs.length : Int)) (m2 : (L + 1 + 1, o2) ∈ nb) (d2 : o2.data = .cell (some (.ref fl))) (mf : (fl, W.listOf fvs.toArray fn) ∈ nb) (hf : Fonts nb fvs fs) (hok : ∀ f ∈ fs, FSpec.Ok f) (hf2 : fs.length ≤ 3) (m3 : (L + 1 + 1 + 1, o3) ∈ nb) (d3 : o3.data = .cell (some (.bytes pb tpb))) (hps : KBw.bInts pb = ps) (hpl : ps.length = 40) (hdu : m (Str.ofString "due") = some (.ref dl)) (offD : ∀ p ∈ nb, p.1 ≠ dl) (hE : PassesOwn (model PySem.Challenge.rw_pb0178_01.row.prog w) (ktrTop dp un gd lawN lawSc L a ccd (lawCl L) outer) (envX lawN lawSc L a ccd (lawCl L)) E)
  (hret : ∀ R dvs a h' tk', Items w (R ++ nb) dvs (ords.map fun z => (fs.getD z.toNat (.one 0 0 0)).res ps) → (∀ p ∈ R ++ nb, p.1 ≠ dl) → Fr h₀ L h' (fun y => if y = Str.ofString "spot" then a else m y) → News h₀ L h' ((dl, PyProof.Rows.LCg.lst dvs) :: (R ++ nb)) → Q .next { s with heap := h', toks := tk' }) :
  wpAny (model PySem.Challenge.rw_pb0178_01.row.prog w) (ktrTop dp un gd lawN lawSc L a ccd (lawCl L) outer) (exec (lawS 14) (envX lawN lawSc L a ccd (lawCl L))) Q E s := by
  have hlen : ovs.length = ords.length := hio.length
  have hfl := hf.len
  with_unfolding_all (show wpAny _ _ (exec (Stmt.For _ _ _ _ _) _) _ _ _)
  refine For_W h₀ ?_ (by intro _; with_unfolding_all rfl) (by intro _ _; with_unfolding_all rfl) hE
  repeat' (first | ((fail_if_success (with_reducible show LoopW _ _ _ _ _ _ _ _ _ _ _)); (first | ((k_here; (with_reducible show wpAny _ _ (call (Value.builtin "len") [Value.ref _]) _ _ _); k_dflt (refine len_memL (by k_asm) (by repeat (first | assumption | exact .head _ | refine .tail _ ?_)) (by first | lia | (simp only [List.size_toArray]; lia)) ?_))) | ((k_here; (with_reducible show wpAny _ _ (eval (Expr.Name _ _) (envX _ _ _ _ _ _)) _ _ _); k_dflt (refine nameX_L (by k_asm) (by with_reducible assumption) ?_))) | (k_unfold; (try dsimp only)) | (k_end; wrow_close) | walk1 | (dsimp only; walk1))))
  have hS : PyProof.Rows.LCg.SrcAt h₀ ol ovs.toArray ((dl, PyProof.Rows.LCg.lst []) :: nb) := .inr ⟨_, .tail _ mo, rfl, _, rfl⟩
  refine LoopW.mk (J14 w ps dl nb (ords.map fun z => (fs.getD z.toNat (.one 0 0 0)).res ps) m) (PyProof.Rows.LCg.SrcAt h₀ ol ovs.toArray) (fun i v => ovs.toArray[i]? = some v) ovs.toArray.size F N hS ⟨[], [], _, rfl, .nil, offD, j14_0⟩ (iter_list hS rfl F N) ?step ?fin
  case step =>
    clear N hS
    intro j v I oI m₁ news₁ h tk hj hP hJ hS₁ F₁ N₁ off₁
    obtain ⟨R, dvs, a, rfl, hit, offR, rfl⟩ := hJ
    rw [List.size_toArray] at hj
    have hj2 : j < ords.length := by lia
    obtain ⟨tz, hvz⟩ := ints_get hio hj hj2
    obtain rfl : v = .int ords[j] tz := by
      have h1 : ovs[j]? = some v := by simpa using hP
      rw [List.getElem?_eq_getElem hj, hvz] at h1
      exact (Option.some.inj h1).symm
    obtain ⟨z0, z1⟩ := hor _ (List.getElem_mem hj2)
    have htk : (ords.map fun z => (fs.getD z.toNat (.one 0 0 0)).res ps).take (j + 1) = (ords.map fun z => (fs.getD z.toNat (.one 0 0 0)).res ps).take j ++ [(fs.getD ords[j].toNat (.one 0 0 0)).res ps] := by
      rw [List.take_succ_eq_append_getElem (by simpa using hj2), List.getElem_map]
    generalize ords[j] = z at *
    obtain ⟨k, rfl⟩ := Int.eq_ofNat_of_zero_le z0
    have hk : k < fs.length := by lia
    have hk2 : k < fvs.length := by lia
    have hfd : fs.getD ((k : Int)).toNat (.one 0 0 0) = fs[k] := by simp [List.getD_eq_getElem?_getD, List.getElem?_eq_getElem hk]
    rw [hfd] at htk
    obtain ⟨f, hff, hfo⟩ := hf.get k fvs[k] (List.getElem?_eq_getElem hk2)
    obtain rfl : fs[k] = f := by rw [List.getElem?_eq_getElem hk] at hff; exact Option.some.inj hff
    obtain ⟨ft, rl, rvs, rn, tv, hv, mft, mrl, hrl, hrow⟩ := hfo.parts (hok _ (List.getElem_mem hk))
    have hr2 := (fs[k]).rows_le
    repeat' (first | ((fail_if_success (with_reducible show wpAny _ _ (execs (_ :: _) _) _ _ _)); (first | ((k_here; (with_reducible show wpAny _ _ (call (Value.builtin "len") [Value.ref _]) _ _ _); k_dflt (refine len_memL (by k_asm) (by repeat (first | assumption | exact .head _ | refine .tail _ ?_)) (by first | lia | (simp only [List.size_toArray]; lia)) ?_))) | ((k_here; (with_reducible show wpAny _ _ (eval (Expr.Name _ _) (envX _ _ _ _ _ _)) _ _ _); k_dflt (refine nameX_L (by k_asm) (by with_reducible assumption) ?_))) | (k_unfold; (try dsimp only)) | (k_end; wrow_close) | walk1 | (dsimp only; walk1))))
    (rename Fr _ _ _ _ => F3)
    (rename News _ _ _ _ => N3)
    obtain ⟨m₂, e₂, F4⟩ := fr_abs F3
    have q1 : m₂ (Str.ofString "spot") = some (.int (k : Int) tz) := by rw [e₂]; rfl
    have q2 : m₂ (Str.ofString "due") = some (.ref dl) := by rw [e₂]; exact hdu
    clear F3
    have ub : ∀ p ∈ nb, p ∈ (I, oI) :: (dl, PyProof.Rows.LCg.lst dvs) :: (R ++ nb) := fun p hp => .tail _ (.tail _ (List.mem_append_right _ hp))
    have k2 := ub _ m2
    have kf := ub _ mf
    have kt := ub _ mft
    have kr := ub _ mrl
    repeat' (first | ((fail_if_success (with_reducible show wpAny _ _ (subscriptTail _ _ (Value.ref fl) _) _ _ _)); (first | ((k_here; (with_reducible show wpAny _ _ (call (Value.builtin "len") [Value.ref _]) _ _ _); k_dflt (refine len_memL (by k_asm) (by repeat (first | assumption | exact .head _ | refine .tail _ ?_)) (by first | lia | (simp only [List.size_toArray]; lia)) ?_))) | ((k_here; (with_reducible show wpAny _ _ (eval (Expr.Name _ _) (envX _ _ _ _ _ _)) _ _ _); k_dflt (refine nameX_L (by k_asm) (by with_reducible assumption) ?_))) | (k_unfold; (try dsimp only)) | (k_end; wrow_close) | walk1 | (dsimp only; walk1))))
    refine item_mem (by assumption) kf (by lia) (by lia) (by simpa [List.getElem?_eq_getElem hk2] using hv) ?_ (by with_unfolding_all rfl)
    repeat' (first | ((fail_if_success (with_reducible show wpAny _ _ (eval (Expr.ListComp _ _ _ _) _) _ _ _)); (first | ((k_here; (with_reducible show wpAny _ _ (call (Value.builtin "len") [Value.ref _]) _ _ _); k_dflt (refine len_memL (by k_asm) (by repeat (first | assumption | exact .head _ | refine .tail _ ?_)) (by first | lia | (simp only [List.size_toArray]; lia)) ?_))) | ((k_here; (with_reducible show wpAny _ _ (eval (Expr.Name _ _) (envX _ _ _ _ _ _)) _ _ _); k_dflt (refine nameX_L (by k_asm) (by with_reducible assumption) ?_))) | (k_unfold; (try dsimp only)) | (k_end; wrow_close) | walk1 | (dsimp only; walk1))))
    refine ListComp_3 (h₀ := h₀) (L := L) (m := m₂) (by with_unfolding_all rfl) (by decide) (by rfl) (by decide) (by rfl) (by rfl) (by rfl) (by decide) (by decide) (by decide) (by intro _; with_unfolding_all rfl) ?_
    repeat' (first | ((fail_if_success (with_reducible show wpAny _ _ (subscriptTail _ _ (Value.ref fl) _) _ _ _)); (first | ((k_here; (with_reducible show wpAny _ _ (call (Value.builtin "len") [Value.ref _]) _ _ _); k_dflt (refine len_memL (by k_asm) (by repeat (first | assumption | exact .head _ | refine .tail _ ?_)) (by first | lia | (simp only [List.size_toArray]; lia)) ?_))) | ((k_here; (with_reducible show wpAny _ _ (eval (Expr.Name _ _) (envX _ _ _ _ _ _)) _ _ _); k_dflt (refine nameX_L (by k_asm) (by with_reducible assumption) ?_))) | (k_unfold; (try dsimp only)) | (k_end; wrow_close) | walk1 | (dsimp only; walk1))))
    refine item_mem (by assumption) kf (by lia) (by lia) (by simpa [List.getElem?_eq_getElem hk2] using hv) ?_ (by with_unfolding_all rfl)
    repeat' (first | ((fail_if_success (with_reducible show Src3 _ _ _ _ _ _ _ _ _ _ _ _ _ _ _ _)); (first | ((k_here; (with_reducible show wpAny _ _ (call (Value.builtin "len") [Value.ref _]) _ _ _); k_dflt (refine len_memL (by k_asm) (by repeat (first | assumption | exact .head _ | refine .tail _ ?_)) (by first | lia | (simp only [List.size_toArray]; lia)) ?_))) | ((k_here; (with_reducible show wpAny _ _ (eval (Expr.Name _ _) (envX _ _ _ _ _ _)) _ _ _); k_dflt (refine nameX_L (by k_asm) (by with_reducible assumption) ?_))) | (k_unfold; (try dsimp only)) | (k_end; wrow_close) | walk1 | (dsimp only; walk1))))
    (rename Fr _ _ _ _ => F5)
    (rename News _ _ _ _ => N5)
    refine ⟨J14c ps ((I, oI) :: (dl, PyProof.Rows.LCg.lst dvs) :: (R ++ nb)) (fs[k]).rows, rl, rvs.toArray, _, rfl, rfl, F5, N5, .inr ⟨_, kr, rfl, _, rfl⟩, by rw [List.size_toArray, sizeLine_eq]; lia, ⟨[], rfl, .nil⟩, ?turn, ?cfin⟩
    case turn =>
      clear F5 N5
      intro g i ys news v hi3 hJc hv3
      obtain ⟨T, rfl, hct⟩ := hJc
      rw [List.size_toArray] at hi3
      obtain ⟨r, ri, x, y, z, g1, g2, g3, g4, g5, g6, g7⟩ := hrow i v (by simpa using hv3)
      have hi4 : i < (fs[k]).rows.length := by lia
      have htr : (fs[k]).rows.take (i + 1) = (fs[k]).rows.take i ++ [r] := by
        obtain ⟨hl, e⟩ := List.getElem?_eq_some_iff.mp g1
        rw [List.take_succ_eq_append_getElem hl, e]
      refine ⟨ri, _, _, _, _, _, g2, List.mem_append_right _ (ub _ g3), rfl, rfl, ?_⟩
      intro I2 oI2 C oC D m₃ h₃ tk₃ E' hC hm1 hm2 hm3 F₃ N₃ off₃ ne₃
      have k3 : (L + 1 + 1 + 1, o3) ∈ (I2, oI2) :: (C, oC) :: (D, PyProof.Rows.LCg.lst ys) :: (T ++ (I, oI) :: (dl, PyProof.Rows.LCg.lst dvs) :: (R ++ nb)) := .tail _ (.tail _ (.tail _ (List.mem_append_right _ (ub _ m3))))
      (repeat' (first | ((k_here; (with_reducible show wpAny _ _ (call (Value.builtin "len") [Value.ref _]) _ _ _); k_dflt (refine len_memL (by k_asm) (by repeat (first | assumption | exact .head _ | refine .tail _ ?_)) (by first | lia | (simp only [List.size_toArray]; lia)) ?_))) | ((k_here; (with_reducible show wpAny _ _ (eval (Expr.Name _ _) (envX _ _ _ _ _ _)) _ _ _); k_dflt (refine nameX_L (by k_asm) (by with_reducible assumption) ?_))) | (k_unfold; (try dsimp only)) | (k_end; wrow_close) | walk1 | (dsimp only; walk1) | (leave1; walk_say "STEP leave1"; try dsimp only) | fail "no step"))
      (rename KBw.bInts (KBy.picked _ _ _) = _ => hpk)
      (rename _ ∧ _ ∧ _ ∧ AllLt _ _ => lt3)
      rw [clip_cut g4 g6 (by lia)] at hpk
      (rename News _ _ _ (_ :: (I2, oI2) :: _) => nR)
      refine comp_new (by assumption) nR off₃ lt3.1 lt3.2.1 lt3.2.2.1 (.inr ⟨_, .tail _ (List.mem_append_right _ kr), rfl, _, rfl⟩) ⟨_ :: T, rfl, ?cu⟩
      rw [htr]
      exact .snoc hct hpk
    case cfin =>
      intro g ys news' hJc D h₃ tk₃ F₃ N₃ off₃
      obtain ⟨T, rfl, hct⟩ := hJc
      rw [List.size_toArray, hrl, List.take_length] at hct
      clear F5 N5
      repeat' (first | ((fail_if_success (with_reducible show wpAny _ _ (PySem.call (Value.type "dict") _ _) _ _ _)); (first | ((k_here; (with_reducible show wpAny _ _ (call (Value.builtin "len") [Value.ref _]) _ _ _); k_dflt (refine len_memL (by k_asm) (by repeat (first | assumption | exact .head _ | refine .tail _ ?_)) (by first | lia | (simp only [List.size_toArray]; lia)) ?_))) | ((k_here; (with_reducible show wpAny _ _ (eval (Expr.Name _ _) (envX _ _ _ _ _ _)) _ _ _); k_dflt (refine nameX_L (by k_asm) (by with_reducible assumption) ?_))) | (k_unfold; (try dsimp only)) | (k_end; wrow_close) | walk1 | (dsimp only; walk1))))
      have hfk := hok _ (List.getElem_mem hk)
      generalize fs[k] = f at hct htk hfk
      cases f
      case one ver b1 l1 =>
        obtain ⟨p1, bb1, k1, u1, rfl, rfl, hb1⟩ := cuts1 hct
        refine dict1_w F₃ X N₃ (.head _) (.tail _ (.head _)) (by lia) (by lia) ?_
        intro dd h4 tk4 F4' N4' hne
        repeat' (first | ((fail_if_success (with_reducible show wpAny _ _ (PySem.call (Value.builtin "list.append") _ _) _ _ _)); (first | ((k_here; (with_reducible show wpAny _ _ (call (Value.builtin "len") [Value.ref _]) _ _ _); k_dflt (refine len_memL (by k_asm) (by repeat (first | assumption | exact .head _ | refine .tail _ ?_)) (by first | lia | (simp only [List.size_toArray]; lia)) ?_))) | ((k_here; (with_reducible show wpAny _ _ (eval (Expr.Name _ _) (envX _ _ _ _ _ _)) _ _ _); k_dflt (refine nameX_L (by k_asm) (by with_reducible assumption) ?_))) | (k_unfold; (try dsimp only)) | (k_end; wrow_close) | walk1 | (dsimp only; walk1))))
        refine app14 (by assumption) (by assumption) (by assumption) hne off₁ offR (by have := hit.len; rw [List.length_take, List.length_map] at this; lia) ?_
        intro h5 F5' N5' o5 o6
        refine wpAny_execs_nil ?_
        subst e₂
        refine StepW.mk F5' N5' o5 ⟨⟨_ :: _ :: R, _, _, rfl, (by rw [htk]; exact .snoc (hit.mono fun p hp => .tail _ (.tail _ hp)) (.one (.head _) (.tail _ (.head _)) hb1)), o6, j14_s⟩, .inr ⟨_, .tail _ (.tail _ (.tail _ (List.mem_append_right _ mo))), rfl, _, rfl⟩⟩
      case two ver b1 l1 l2 =>
        obtain ⟨p1, bb1, k1, u1, p2, bb2, k3, u3, rfl, rfl, hb1, hb2⟩ := cuts2 hct
        refine dict2_w F₃ X N₃ (.head _) (.tail _ (.tail _ (.head _))) (.tail _ (.head _)) (by lia) (by lia) ?_
        intro dd h4 tk4 F4' N4' hne
        repeat' (first | ((fail_if_success (with_reducible show wpAny _ _ (PySem.call (Value.builtin "list.append") _ _) _ _ _)); (first | ((k_here; (with_reducible show wpAny _ _ (call (Value.builtin "len") [Value.ref _]) _ _ _); k_dflt (refine len_memL (by k_asm) (by repeat (first | assumption | exact .head _ | refine .tail _ ?_)) (by first | lia | (simp only [List.size_toArray]; lia)) ?_))) | ((k_here; (with_reducible show wpAny _ _ (eval (Expr.Name _ _) (envX _ _ _ _ _ _)) _ _ _); k_dflt (refine nameX_L (by k_asm) (by with_reducible assumption) ?_))) | (k_unfold; (try dsimp only)) | (k_end; wrow_close) | walk1 | (dsimp only; walk1))))
        refine app14 (by assumption) (by assumption) (by assumption) hne off₁ offR (by have := hit.len; rw [List.length_take, List.length_map] at this; lia) ?_
        intro h5 F5' N5' o5 o6
        refine wpAny_execs_nil ?_
        subst e₂
        refine StepW.mk F5' N5' o5 ⟨⟨_ :: _ :: R, _, _, rfl, (by rw [htk]; exact .snoc (hit.mono fun p hp => .tail _ (.tail _ hp)) (.two (.head _) (.tail _ (.head _)) hb1 hb2)), o6, j14_s⟩, .inr ⟨_, .tail _ (.tail _ (.tail _ (List.mem_append_right _ mo))), rfl, _, rfl⟩⟩
  case fin =>
    intro h' tk' m' news' F₂ N₂ hJ
    obtain ⟨R, dvs, a, rfl, hit, offR, rfl⟩ := hJ
    rw [List.size_toArray, hlen, show ords.length = (ords.map fun z => (fs.getD z.toNat (.one 0 0 0)).res ps).length by simp, List.take_length] at hit
    exact hret R dvs a _ _ hit offR F₂ N₂
end
end
section
theorem bInts_inj {a b : Array UInt8} (h : KBw.bInts a = KBw.bInts b) : a = b := by
  obtain ⟨a⟩ := a
  obtain ⟨b⟩ := b
  have h' : a.map (fun c => (c.toNat : Int)) = b.map (fun c => (c.toNat : Int)) := by simpa [KBw.bInts] using h
  congr 1
  clear h
  induction a generalizing b with
  | nil => cases b with
    | nil => rfl
    | cons _ _ => simp at h'
  | cons x a ih => cases b with
    | nil => simp at h'
    | cons y b =>
      simp only [List.map_cons, List.cons.injEq] at h'
      have e : x = y := UInt8.toNat_inj.mp (by lia)
      rw [e, ih b h'.2]
theorem sys_in {mean : ExcName → Option Value} {mg mb : PySem.Str → Option Value} {h₀ h : Heap} {L a : Addr} {o : Obj} {news : List (Addr × Obj)} (T : Top Mine.hd.view_39 (looseW Mine.hd.view_39 [Str.ofString "ShapeError", Str.ofString "VERSIONS"]) mean mg mb h₀) (N : News h₀ L h news) (hm : (a, o) ∈ news) : (a == sysModules) = false := by
  obtain ⟨mm, hS, _⟩ := (T.seer (by decide +kernel)).mods
  obtain ⟨oS, _, _, h1, _⟩ := hS
  have h2 := (N _ hm).2.2
  cases q : (a == sysModules) with
  | false => rfl
  | true =>
    have e : a = sysModules := eq_of_beq q
    rw [e] at h2
    rw [h1] at h2
    cases h2
theorem pairs1 {prog : Program} {w : World} {e : DictEntry} {x : PySem.Str} {k : Tok} {v : Value} (hk : e.key = .str x k) (hv : e.val = v) : Pairs (strKind prog w) [e] [(x, v)] :=
  .cons (by rw [hk]; exact strKind_is _ _ _ _) hv .nil
theorem dict1_is {prog : Program} {w : World} {k u : Tok} {v : Array UInt8} : Obj.IsDictOf (strKind prog w) (dictOf [⟨PyData.keyHash w.params (Str.ofString "cmap"), .str (Str.ofString "cmap") k, .bytes v u⟩] 1) [(Str.ofString "cmap", .bytes v u)] := by
  refine ⟨_, _, ⟨rfl, rfl, rfl⟩, rfl, ?_, .cons (strKind_is _ _ _ _) rfl .nil, by simp⟩
  intro e he
  simp at he
  subst he
  exact ⟨_, strKind_is _ _ _ _, rfl⟩
theorem dict2_is {prog : Program} {w : World} {k1 u1 k2 u2 : Tok} {v1 v2 : Array UInt8} : Obj.IsDictOf (strKind prog w) (dictOf [⟨PyData.keyHash w.params (Str.ofString "cmap"), .str (Str.ofString "cmap") k1, .bytes v1 u1⟩, ⟨PyData.keyHash w.params (Str.ofString "post"), .str (Str.ofString "post") k2, .bytes v2 u2⟩] 2) [(Str.ofString "cmap", .bytes v1 u1), (Str.ofString "post", .bytes v2 u2)] := by
  refine ⟨_, _, ⟨rfl, rfl, rfl⟩, rfl, ?_, .cons (strKind_is _ _ _ _) rfl (.cons (strKind_is _ _ _ _) rfl .nil), ?_⟩
  rotate_left
  · have e : Str.ofString "cmap" ≠ Str.ofString "post" := by decide
    simp [e]
  intro e he
  simp at he
  rcases he with rfl | rfl
  · exact ⟨_, strKind_is _ _ _ _, rfl⟩
  · exact ⟨_, strKind_is _ _ _ _, rfl⟩
open PySem.SeqAt PySem.MeetsSeq PySem.MeetsSeq2 PySem.MeetsSeq3
open PySem.AutoSeq1 (wpAny_loadPart')
section
variable {prog : Program} {w : World}
/-- the two are equal, in this world -/
noncomputable def SameAt (prog : Program) (w : World) (A : Around) (s : Shared) (y x : Value) : Prop :=
  ∀ (E : Value → Shared → Prop) (Q : Bool → Shared → Prop), Q true s → wpAny (model prog w) A (eqBool y x) Q E s
theorem SameAt.same {A : Around} {s : Shared} (v : Value) : SameAt prog w A s v v := fun E Q h => EqAt.same v prog w E Q h
theorem SameAt.of_rc {A : Around} {s : Shared} {l b : Addr} (h : ∀ (E : Value → Shared → Prop) (Q : Value → Shared → Prop), Q (.bool true) s → wpAny (model prog w) A (richCompare .Eq (.ref l) (.ref b)) Q E s) : SameAt prog w A s (.ref l) (.ref b) := fun E Q hq => by
  by_cases hne : l = b
  · rw [hne]; exact SameAt.same _ E Q hq
  unfold eqBool
  refine wpAny_holding ?_
  refine wpAny_ite_split (fun hab => absurd (by have := eq_of_beq hab; injection this) hne) (fun _ => ?_)
  exact wpAny_bind (h E _ (wpAny_truthy_bool hq))
theorem same_bytes {A : Around} {s : Shared} {b : Array UInt8} {t u : Tok} : SameAt prog w A s (.bytes b t) (.bytes b u) := fun E Q h => by
  unfold eqBool
  refine wpAny_holding ?_
  refine wpAny_ite_split (fun _ => ?_) (fun _ => ?_)
  · exact wpAny_bind (wpAny_rule (wpAny_pure h))
  · exact wpAny_bind (eq_bytes (by rw [beq_self_eq_true]; exact wpAny_truthy_bool h))
theorem bytes_at {A : Around} {s : Shared} {b : Array UInt8} {t u : Tok} : EqAt A s (.bytes b t) (.bytes b u) true := fun _ _ E Q h => same_bytes E Q h
theorem same_int {A : Around} {s : Shared} {v : Int} {t u : Tok} : SameAt prog w A s (.int v t) (.int v u) := fun E Q h => EqAt.int_int v t v u prog w E Q (by rw [beq_self_eq_true]; exact h)
theorem same_dict {A : Around} {s : Shared} {a b : Addr} {ka kb : List (PySem.Str × Value)} (la : (a == sysModules) = false) (lb : (b == sysModules) = false)
  (da : s.heap.DictOf (strKind prog w) a ka) (db : s.heap.DictOf (strKind prog w) b kb) (hl : ka.length = kb.length) (hu : A.units < cLine) (hits : KeqHits A.in1 s kb ka true) : SameAt prog w A s (.ref a) (.ref b) :=
  .of_rc fun E Q h => keq_eq la lb da db hu (fun _ => hits) (by rw [hl, beq_self_eq_true]; exact h)
theorem same_tuple {A : Around} {s : Shared} {l b : Addr} {xs ys : Array Value} (hl : s.heap.IsTuple l xs) (hb : s.heap.IsTuple b ys) (hu : A.units < cLine) (hsz : xs.size = ys.size)
  (he : ∀ j (h1 : j < xs.size) (h2 : j < ys.size), SameAt prog w A.in1 s xs[j] ys[j]) : SameAt prog w A s (.ref l) (.ref b) := .of_rc fun E Q hq => by
  obtain ⟨⟨cls, dd, data, sl⟩, ho, hc, n, hd⟩ := id hl
  obtain ⟨⟨cls2, dd2, data2, sl2⟩, ho2, hc2, n2, hd2⟩ := id hb
  simp only at hc hd hc2 hd2
  subst hc hd hc2 hd2
  refine wpAny_richCompare_same_room (op := .Eq) ⟨_, ho, rfl⟩ ⟨_, ho2, rfl⟩ F.slot_tuple_eq (wpAny_call_entry F.slot_tuple_eq ⟨_, ho, rfl⟩ F.entry_tuple_eq ?_ (F.args_tuple_eq_2 _ _)) hu
  obtain ⟨hp, g, d, tk, os⟩ := s
  have f2 := AutoSeq1.sub_tuple_tuple
  have hZ : (xs.toList.zip ys.toList).length = xs.size := by simp [hsz]
  wp_walk using wpAny_loadPart' ho, wpAny_loadPart' ho2, wpAny_forIn_list _ (fun rest b s' => b.1 = none ∧ s' = ⟨hp, g, d, tk, os⟩ ∧ ∀ p ∈ rest, p ∈ xs.toList.zip ys.toList) _
  case turn =>
    rintro ⟨x, y⟩ rest ⟨b1, b2⟩ s' ⟨hb', rfl, hsub⟩
    obtain ⟨j, hj, e⟩ := List.mem_iff_getElem.mp (hsub _ (.head _))
    rw [hZ] at hj
    have hj2 : j < ys.size := hsz ▸ hj
    rw [List.getElem_zip] at e
    have ex : xs[j] = x := by simpa using congrArg Prod.fst e
    have ey : ys[j] = y := by simpa using congrArg Prod.snd e
    subst ex ey
    refine wpAny_bind (he j hj hj2 _ _ ?_)
    wp_walk
    exact ⟨rfl, rfl, fun p hp => hsub p (.tail _ hp)⟩
  case fin =>
    rintro ⟨b1, b2⟩ s' ⟨hb', rfl, -⟩
    simp only at hb'
    subst hb'
    wp_walk
    have e : Builtin.Tuple.tupleCompareSizes CmpOp.Eq xs.size ys.size = .bool true := by simp [Builtin.Tuple.tupleCompareSizes, hsz]
    rw [e]
    exact ⟨_, rfl, fun x => (nomatch x), hq⟩
  case h => exact ⟨rfl, rfl, fun _ hp => hp⟩
theorem ne_loopT {l b : Addr} {xs ys : Array Value} {n n2 : Nat} {dd dd2 : Option Addr} {sl sl2 : Array (Option Value)} (hsz : xs.size = ys.size) (k : Nat) : ∀ (i : Nat), xs.size - i = k → ∀ (A : Around) (R : Result → Shared → Prop) (s : Shared),
    s.heap.get? l = some { cls := .type "list", dict := dd, data := .seq xs n, slots := sl } → s.heap.get? b = some { cls := .type "list", dict := dd2, data := .seq ys n2, slots := sl2 } →
    (∀ j (h1 : j < xs.size) (h2 : j < ys.size), SameAt prog w A.in1 s xs[j] ys[j]) → R (.ok (.ret (.bool false))) s →
    wpAny (model prog w) A.in1 (Builtin.«list.__eq__.loop» ⟨[.ref l, .ref b, rawInt i, rawInt 3], []⟩) (fun fin s' => match fin with | .done f => R (.ok f) s' | .again c' => c'.quiet = true ∧ codeAny (model prog w) A c' R s') (fun e s' => R (.error e) s') s := by
  induction k with
  | zero =>
    intro i hk A R s hl hb he h
    obtain ⟨hp, g, d, tk, os⟩ := s
    wp_walk using wpAny_loadPart' hl, wpAny_loadPart' hb
    have hi1 : xs[((i : Nat) : Int).toNat]? = none := by simp; lia
    have hi2 : ys[((i : Nat) : Int).toNat]? = none := by simp; lia
    rw [hi1, hi2]
    wp_walk using wpAny_loadPart' hl, wpAny_loadPart' hb
    show R (.ok (.ret (.bool (xs.size != ys.size)))) _
    rw [hsz]
    simpa using h
  | succ k ih =>
    intro i hk A R s hl hb he h
    obtain ⟨hp, g, d, tk, os⟩ := s
    wp_walk using wpAny_loadPart' hl, wpAny_loadPart' hb
    have hlt : i < xs.size := by lia
    have hlt2 : i < ys.size := by lia
    have hi1 : xs[((i : Nat) : Int).toNat]? = some xs[i] := by simp [hlt]
    have hi2 : ys[((i : Nat) : Int).toNat]? = some ys[i] := by simp [hlt2]
    have hc : ((i : Int) + 1) = ((i + 1 : Nat) : Int) := by push_cast; rfl
    rw [hi1, hi2]
    refine wpAny_bind (he i hlt hlt2 _ _ ?_)
    wp_walk
    rw [hc]
    exact ⟨plainId_quiet plain_eq_loop _, codeAny_builtin entry_eq_loop (by
      rw [Around.under_plainId plain_eq_loop _]
      exact ih (i + 1) (by lia) A R _ hl hb he h)⟩
theorem ne_lists {A : Around} {E Q : Value → Shared → Prop} {s : Shared} {l b : Addr} {xs ys : Array Value} (hl : s.heap.IsList l xs) (hb : s.heap.IsList b ys) (hu : A.units < cLine) (hsz : xs.size = ys.size)
  (he : ∀ j (h1 : j < xs.size) (h2 : j < ys.size), SameAt prog w A.in1 s xs[j] ys[j]) (hq : Q (.bool false) s) : wpAny (model prog w) A (compareOp .NotEq (.ref l) (.ref b)) Q E s := by
  obtain ⟨⟨cls, dd, data, sl⟩, ho, hc, n, hd⟩ := id hl
  obtain ⟨⟨cls2, dd2, data2, sl2⟩, ho2, hc2, n2, hd2⟩ := id hb
  simp only at hc hd hc2 hd2
  subst hc hd hc2 hd2
  refine wpAny_richCompare_same_room (op := .NotEq) ⟨_, ho, rfl⟩ ⟨_, ho2, rfl⟩ F.slot_list_ne (wpAny_call (codeAny_call_builtin F.slot_list_ne.plain F.entry_list_ne (F.slot_list_ne.check _ _ _ _ _ _ _ _ ⟨_, ho, rfl⟩ (F.args_list_ne_2 _ _) ?_))) hu
  obtain ⟨hp, g, d, tk, os⟩ := s
  have f3 := AutoSeq1.sub_list_list
  have hne : ¬ (xs.size != ys.size) = true := by simp [hsz]
  wp_walk using wpAny_loadPart' ho, wpAny_loadPart' ho2
  exact ⟨plainId_quiet plain_eq_loop _, codeAny_builtin entry_eq_loop (by
    rw [Around.under_plainId plain_eq_loop _]
    exact ne_loopT hsz _ 0 rfl A (wants (fun v s' => v ≠ .notImplemented ∧ Q v s') E) _ ho ho2 he (show Value.bool false ≠ Value.notImplemented ∧ Q (.bool false) _ from ⟨fun x => (nomatch x), hq⟩))⟩
theorem item_same {A : Around} {s : Shared} {h₀ : Heap} {L : Addr} {mean : ExcName → Option Value} {mg mb : PySem.Str → Option Value} {news : List (Addr × Obj)} {v u : Value} {f : FRes} (T : Top Mine.hd.view_39 (looseW Mine.hd.view_39 [Str.ofString "ShapeError", Str.ofString "VERSIONS"]) mean mg mb h₀) (N : News h₀ L s.heap news) (hv : ItemAt w news v f) (hu : ItemAt w news u f) (hz : A.units + 100 < cLine) : SameAt prog w A s v u := by
  have h1 : A.in1.units ≤ A.units + 8 := by simp only [units_in1]; lia
  cases hv with
  | one ht hd hx =>
    cases hu with
    | one ht' hd' hx' =>
      obtain rfl := bInts_inj (hx.trans hx'.symm)
      refine same_tuple ⟨_, N.get ht, rfl, _, rfl⟩ ⟨_, N.get ht', rfl, _, rfl⟩ (by lia) rfl fun j h1 h2 => ?_
      match j, h1 with
      | 0, _ => exact same_int
      | 1, _ => exact same_dict (sys_in T N hd) (sys_in T N hd') (kda_dict N hd dict1_is) (kda_dict N hd' dict1_is) rfl (by lia) (.hit rfl bytes_at .nil)
  | two ht hd hx hy =>
    cases hu with
    | two ht' hd' hx' hy' =>
      obtain rfl := bInts_inj (hx.trans hx'.symm)
      obtain rfl := bInts_inj (hy.trans hy'.symm)
      refine same_tuple ⟨_, N.get ht, rfl, _, rfl⟩ ⟨_, N.get ht', rfl, _, rfl⟩ (by lia) rfl fun j h1 h2 => ?_
      match j, h1 with
      | 0, _ => exact same_int
      | 1, _ => exact same_dict (sys_in T N hd) (sys_in T N hd') (kda_dict N hd dict2_is) (kda_dict N hd' dict2_is) rfl (by lia) (.hit rfl bytes_at (.hit rfl bytes_at .nil))
theorem Items.get {R : List (Addr × Obj)} {vs : List Value} {fs : List FRes} (h : Items w R vs fs) : ∀ (j : Nat) (v : Value), vs[j]? = some v → ∃ f, fs[j]? = some f ∧ ItemAt w R v f := by
  induction h with
  | nil => intro j v h; simp at h
  | @snoc vs fs v0 f0 h i ih =>
    intro j v hv
    have hl := h.len
    by_cases hj : j < vs.length
    · rw [List.getElem?_append_left hj] at hv
      obtain ⟨f, hf, ho⟩ := ih j v hv
      exact ⟨f, by rw [List.getElem?_append_left (by lia)]; exact hf, ho⟩
    · rw [List.getElem?_append_right (by lia)] at hv
      have hj2 : j - vs.length = 0 := by
        have := (List.getElem?_eq_some_iff.mp hv).1
        simp at this
        lia
      rw [hj2] at hv
      simp at hv
      refine ⟨f0, ?_, hv ▸ i⟩
      rw [List.getElem?_append_right (by lia), show j - fs.length = 0 by lia]
      rfl
theorem items_ne {A : Around} {E Q : Value → Shared → Prop} {s : Shared} {h₀ : Heap} {L a b : Addr} {mean : ExcName → Option Value} {mg mb : PySem.Str → Option Value} {news : List (Addr × Obj)} {vs us : List Value} {fs : List FRes} (T : Top Mine.hd.view_39 (looseW Mine.hd.view_39 [Str.ofString "ShapeError", Str.ofString "VERSIONS"]) mean mg mb h₀) (N : News h₀ L s.heap news) (hv : Items w news vs fs) (hu : Items w news us fs)
  (ma : (a, PyProof.Rows.LCg.lst vs) ∈ news) (mb' : (b, PyProof.Rows.LCg.lst us) ∈ news) (hz : A.units + 200 < cLine) (hq : Q (.bool false) s) : wpAny (model prog w) A (compareOp .NotEq (.ref a) (.ref b)) Q E s := by
  have h1 : A.in1.units ≤ A.units + 8 := by simp only [units_in1]; lia
  have l1 := hv.len
  have l2 := hu.len
  refine ne_lists (xs := vs.toArray) (ys := us.toArray) ⟨_, N.get ma, rfl, _, rfl⟩ ⟨_, N.get mb', rfl, _, rfl⟩ (by lia) (by simp; lia) (fun j k1 k2 => ?_) hq
  simp only [List.size_toArray] at k1 k2
  obtain ⟨f, e1, i1⟩ := hv.get j vs[j] (List.getElem?_eq_getElem k1)
  obtain ⟨f', e2, i2⟩ := hu.get j us[j] (List.getElem?_eq_getElem k2)
  obtain rfl : f = f' := Option.some.inj (e1.symm.trans e2)
  exact item_same T N i1 i2 (by lia)
end
end
section
theorem part24 : True := by
  w_top off
  trivial
structure RcGood (ks : List Int) (fr : List FRes) : Prop where
  h12 : 12 ≤ ks.length
  hmag : beL ((ks.drop (0 : Int).toNat).take 4) = 1953784678
  hver : beL ((ks.drop (4 : Int).toNat).take 4) = 65536 ∨ beL ((ks.drop (4 : Int).toNat).take 4) = 131072
  hcnt : beL ((ks.drop (4 + 4 : Int).toNat).take 4) = (fr.length : Int)
  hc1 : 0 < (fr.length : Int)
  hc2 : (fr.length : Int) ≤ 64
  hc3 : 12 + 4 * (fr.length : Int) ≤ (ks.length : Int)
  hfs : ∀ i (hi : i < fr.length), FontAt ks (beL ((ks.drop (12 + 4 * (i : Int)).toNat).take 4)) fr[i]
theorem drop_app {h₀ h : Heap} {L : Addr} {q : Addr × Obj} {R news : List (Addr × Obj)} (N : News h₀ L h (q :: (R ++ news))) : News h₀ L h news := fun p hp => N p (.tail _ (List.mem_append_right _ hp))
section
variable {w : World} {mean : ExcName → Option Value} {mg mb : PySem.Str → Option Value} {dp un : Nat} {gd : Option (List Code)} {a : Addr} {ccd : Value} {outer : List Env} {A₀ : Around} {base h₀ : Heap} {L : Addr} {m : PySem.Str → Option Value} {s : Shared} {Q : PySem.Flow → Shared → Prop} {E : Value → Shared → Prop}
set_option maxRecDepth 100000 in
set_option maxHeartbeats 8000000 in
theorem st15 {d : Array UInt8} {ks : List Int} {td : Tok} {dl : Addr} {dvs : List Value} {fr : List FRes} {news : List (Addr × Obj)}
  (B : Below A₀ base outer h₀) (F : Fr h₀ L s.heap m) (X : (Mine.hd.heap_39 w.params).In h₀) (N : News h₀ L s.heap (news)) (T : Top Mine.hd.view_39 (looseW Mine.hd.view_39 [Str.ofString "ShapeError", Str.ofString "VERSIONS"]) mean mg mb h₀)
  (hd : dp ≤ 310) (hu : un ≤ 1200) (hdd : m (Str.ofString "data") = some (.bytes d td)) (hks : KBw.bInts d = ks) (hs : ks.length ≤ 1048576) (hg : RcGood ks fr) (hdu : m (Str.ofString "due") = some (.ref dl)) (md : (dl, PyProof.Rows.LCg.lst dvs) ∈ news) (hit : Items w news dvs fr)
  (hret : ∀ h' tk', Fr h₀ L h' m → News h₀ L h' news → Q .next { s with heap := h', toks := tk' }) :
  wpAny (model PySem.Challenge.rw_pb0178_01.row.prog w) (ktrTop dp un gd lawN lawSc L a ccd (lawCl L) outer) (exec (lawS 15) (envX lawN lawSc L a ccd (lawCl L))) Q E s := by
  have hfr := hg.hc1
  with_unfolding_all (show wpAny _ _ (exec (Stmt.If _ _ _ _) _) _ _ _)
  repeat' (first | ((fail_if_success (with_reducible show wpAny _ _ (PySem.call (Value.ref 263) _ _) _ _ _)); (first | ((k_here; (with_reducible show wpAny _ _ (call (Value.builtin "len") [Value.ref _]) _ _ _); k_dflt (refine len_memL (by k_asm) (by repeat (first | assumption | exact .head _ | refine .tail _ ?_)) (by first | lia | (simp only [List.size_toArray]; lia)) ?_))) | ((k_here; (with_reducible show wpAny _ _ (eval (Expr.Name _ _) (envX _ _ _ _ _ _)) _ _ _); k_dflt (refine nameX_L (by k_asm) (by with_reducible assumption) ?_))) | ((k_here; k_dflt ((with_reducible show wpAny _ _ (PySem.call (Value.ref 271) _ _) _ _ _); (refine' draw_c (by k_asm) (by k_asm) (by k_asm) (by (first | k_asm | exact rot1 (by assumption) | exact rot2 (by assumption) | exact rot3 (by assumption) | exact rot4 (by assumption) | exact rot5 (by assumption) | exact rot6 (by assumption) | exact rot7 (by assumption) | exact rot8 (by assumption))) (by k_asm) (by first | exact rfl | assumption) (by ktr_rel) (by first | assumption | lia) (by assumption) (by cb_room) (by cb_room) (by cb_room) (by cb_room) (by first | cb_room | (simp only [List.size_toArray]; lia)) (by first | cb_room | (simp only [List.size_toArray]; lia)) (by ktr_room) (by ktr_room) ?_); intro v9 t9 t8 n9 h9 tk9 b8 b9 F9 N9; (try dsimp only); (try k_fold)))) | (k_unfold; (try dsimp only)) | (k_end; wrow_close) | walk1 | (dsimp only; walk1))))
  refine rc_c B (by assumption) X (by assumption) T lawSc_fn hks hs hg.h12 hg.hmag rfl hg.hver hg.hcnt hg.hc1 hg.hc2 hg.hc3 (Int.le_refl _) hg.hfs (fun e => absurd e (Int.lt_irrefl _)) (by lia) (by lia) ?_ (fun e => absurd e (Int.lt_irrefl _))
  intro _ fl ys R h2 tk2 F₂ N₂ hit₂ off₂
  repeat' (first | ((fail_if_success (with_reducible show wpAny _ _ (compareOp .NotEq _ _) _ _ _)); (first | ((k_here; (with_reducible show wpAny _ _ (call (Value.builtin "len") [Value.ref _]) _ _ _); k_dflt (refine len_memL (by k_asm) (by repeat (first | assumption | exact .head _ | refine .tail _ ?_)) (by first | lia | (simp only [List.size_toArray]; lia)) ?_))) | ((k_here; (with_reducible show wpAny _ _ (eval (Expr.Name _ _) (envX _ _ _ _ _ _)) _ _ _); k_dflt (refine nameX_L (by k_asm) (by with_reducible assumption) ?_))) | ((k_here; k_dflt ((with_reducible show wpAny _ _ (PySem.call (Value.ref 271) _ _) _ _ _); (refine' draw_c (by k_asm) (by k_asm) (by k_asm) (by (first | k_asm | exact rot1 (by assumption) | exact rot2 (by assumption) | exact rot3 (by assumption) | exact rot4 (by assumption) | exact rot5 (by assumption) | exact rot6 (by assumption) | exact rot7 (by assumption) | exact rot8 (by assumption))) (by k_asm) (by first | exact rfl | assumption) (by ktr_rel) (by first | assumption | lia) (by assumption) (by cb_room) (by cb_room) (by cb_room) (by cb_room) (by first | cb_room | (simp only [List.size_toArray]; lia)) (by first | cb_room | (simp only [List.size_toArray]; lia)) (by ktr_room) (by ktr_room) ?_); intro v9 t9 t8 n9 h9 tk9 b8 b9 F9 N9; (try dsimp only); (try k_fold)))) | (k_unfold; (try dsimp only)) | (k_end; wrow_close) | walk1 | (dsimp only; walk1))))
  refine items_ne T N₂ (hit₂.mono fun p hp => .tail _ hp) (hit.mono fun p hp => .tail _ (List.mem_append_right _ hp)) (.head _) (.tail _ (List.mem_append_right _ md)) (by ktr_room) ?_
  (repeat' (first | ((k_here; (with_reducible show wpAny _ _ (call (Value.builtin "len") [Value.ref _]) _ _ _); k_dflt (refine len_memL (by k_asm) (by repeat (first | assumption | exact .head _ | refine .tail _ ?_)) (by first | lia | (simp only [List.size_toArray]; lia)) ?_))) | ((k_here; (with_reducible show wpAny _ _ (eval (Expr.Name _ _) (envX _ _ _ _ _ _)) _ _ _); k_dflt (refine nameX_L (by k_asm) (by with_reducible assumption) ?_))) | ((k_here; k_dflt ((with_reducible show wpAny _ _ (PySem.call (Value.ref 271) _ _) _ _ _); (refine' draw_c (by k_asm) (by k_asm) (by k_asm) (by (first | k_asm | exact rot1 (by assumption) | exact rot2 (by assumption) | exact rot3 (by assumption) | exact rot4 (by assumption) | exact rot5 (by assumption) | exact rot6 (by assumption) | exact rot7 (by assumption) | exact rot8 (by assumption))) (by k_asm) (by first | exact rfl | assumption) (by ktr_rel) (by first | assumption | lia) (by assumption) (by cb_room) (by cb_room) (by cb_room) (by cb_room) (by first | cb_room | (simp only [List.size_toArray]; lia)) (by first | cb_room | (simp only [List.size_toArray]; lia)) (by ktr_room) (by ktr_room) ?_); intro v9 t9 t8 n9 h9 tk9 b8 b9 F9 N9; (try dsimp only); (try k_fold)))) | (k_unfold; (try dsimp only)) | (k_end; wrow_close) | walk1 | (dsimp only; walk1) | (leave1; walk_say "STEP leave1"; try dsimp only) | fail "no step"))
  exact hret _ _ (by assumption) (drop_app (by assumption))
set_option maxRecDepth 100000 in
set_option maxHeartbeats 8000000 in
theorem st16 {tp c : Addr} {vs : List Value} {ns : List Int} {i : Int} {ti : Tok} {n n' : Nat} {o1 o2 o3 o4 : Obj} {v2 v3 v4 : Option Value} {R : List (Addr × Obj)} {ol pd : Addr} {ovs : List Value} {ords : List Int} {on : Nat} {od : Obj} {kvs : List (Int × Value)} {pl : Int → Int}
  (B : Below A₀ base outer h₀) (F : Fr h₀ L s.heap m) (X : (Mine.hd.heap_39 w.params).In h₀) (N : News h₀ L s.heap ((tp, listOf #[.ref c, .int i ti] n) :: (c, listOf vs.toArray n') :: (L + 1, o1) :: (L + 1 + 1, o2) :: (L + 1 + 1 + 1, o3) :: (L + 1 + 1 + 1 + 1, o4) :: R)) (T : Top Mine.hd.view_39 (looseW Mine.hd.view_39 [Str.ofString "ShapeError", Str.ofString "VERSIONS"]) mean mg mb h₀)
  (hd : dp ≤ 310) (hu : un ≤ 1200) (hi : IntsAre vs ns) (hn1 : 1 ≤ ns.length) (hn2 : ns.length ≤ 60) (d1 : o1.data = .cell (some (.ref tp))) (htp : @LT.lt Nat _ (L + 1 + 1 + 1 + 1) tp) (htc : @LT.lt Nat _ (L + 1 + 1 + 1 + 1) c) (hct : @Ne Nat c tp) (off : LawOff L tp c R) (h0 : 0 ≤ i) (h1 : i < 200) (ho : m (Str.ofString "order") = some (.ref ol)) (mo : (ol, W.listOf ovs.toArray on) ∈ R) (hio : IntsAre ovs ords) (hol1 : 1 ≤ ords.length) (hol2 : ords.length ≤ 4) (d4 : o4.data = .cell (some (.ref pd))) (mp : (pd, od) ∈ R) (hkv : Obj.IsDictOf (intKind PySem.Challenge.rw_pb0178_01.row.prog w) od kvs) (hpl : ∀ z ∈ ords, ∃ t, valueAt kvs z = some (.int (pl z) t))
  (hret : ∀ (r : Nat) (hr : r < ords.length) tf t2 n2 h' tk', Fr h₀ L h' (fun y => if y = Str.ofString "first" then some (.int (pl ords[r]) tf) else m y) → News h₀ L h' ((tp, listOf #[.ref c, .int (i + 1) t2] n2) :: (c, listOf vs.toArray n') :: (L + 1, o1) :: (L + 1 + 1, o2) :: (L + 1 + 1 + 1, o3) :: (L + 1 + 1 + 1 + 1, o4) :: R) → Q .next { s with heap := h', toks := tk' }) :
  wpAny (model PySem.Challenge.rw_pb0178_01.row.prog w) (ktrTop dp un gd lawN lawSc L a ccd (lawCl L) outer) (exec (lawS 16) (envX lawN lawSc L a ccd (lawCl L))) Q E s := by
  have offT := off.t
  have hlen : ovs.length = ords.length := hio.length
  with_unfolding_all (show wpAny _ _ (exec (Stmt.Assign _ _ _) _) _ _ _)
  repeat' (first | ((fail_if_success (with_reducible show wpAny _ _ (subscriptTail _ _ (Value.ref ol) _) _ _ _)); (first | ((k_here; (with_reducible show wpAny _ _ (call (Value.builtin "len") [Value.ref _]) _ _ _); k_dflt (refine len_memL (by k_asm) (by repeat (first | assumption | exact .head _ | refine .tail _ ?_)) (by first | lia | (simp only [List.size_toArray]; lia)) ?_))) | ((k_here; (with_reducible show wpAny _ _ (eval (Expr.Name _ _) (envX _ _ _ _ _ _)) _ _ _); k_dflt (refine nameX_L (by k_asm) (by with_reducible assumption) ?_))) | ((k_here; k_dflt ((with_reducible show wpAny _ _ (PySem.call (Value.ref 271) _ _) _ _ _); (refine' draw_c (by k_asm) (by k_asm) (by k_asm) (by (first | k_asm | exact rot1 (by assumption) | exact rot2 (by assumption) | exact rot3 (by assumption) | exact rot4 (by assumption) | exact rot5 (by assumption) | exact rot6 (by assumption) | exact rot7 (by assumption) | exact rot8 (by assumption))) (by k_asm) (by first | exact rfl | assumption) (by ktr_rel) (by first | assumption | lia) (by assumption) (by cb_room) (by cb_room) (by cb_room) (by cb_room) (by first | cb_room | (simp only [List.size_toArray]; lia)) (by first | cb_room | (simp only [List.size_toArray]; lia)) (by ktr_room) (by ktr_room) ?_); intro v9 t9 t8 n9 h9 tk9 b8 b9 F9 N9; (try dsimp only); (try k_fold)))) | (k_unfold; (try dsimp only)) | (k_end; wrow_close) | walk1 | (dsimp only; walk1))))
  (rename News _ _ _ _ => nR)
  (rename Fr _ _ _ _ => fR)
  (rename (_ : Int) < _ => b9)
  (rename 0 ≤ (_ : Int) => b8)
  rw [List.size_toArray] at b9
  obtain ⟨r, rfl⟩ := Int.eq_ofNat_of_zero_le b8
  have hr : r < ovs.length := by lia
  have hr2 : r < ords.length := by lia
  obtain ⟨tz, hvz⟩ := ints_get hio hr hr2
  refine item_mem nR (.tail _ (.tail _ (.tail _ (.tail _ (.tail _ (.tail _ mo)))))) (by lia) (by lia) (by simpa [List.getElem?_eq_getElem hr] using hvz) ?_ (by with_unfolding_all rfl)
  obtain ⟨tp2, hval⟩ := hpl _ (List.getElem_mem hr2)
  clear hvz
  generalize hz : ords[r] = z at *
  repeat' (first | ((fail_if_success (with_reducible show wpAny _ _ (subscriptTail _ _ (Value.ref pd) _) _ _ _)); (first | ((k_here; (with_reducible show wpAny _ _ (call (Value.builtin "len") [Value.ref _]) _ _ _); k_dflt (refine len_memL (by k_asm) (by repeat (first | assumption | exact .head _ | refine .tail _ ?_)) (by first | lia | (simp only [List.size_toArray]; lia)) ?_))) | ((k_here; (with_reducible show wpAny _ _ (eval (Expr.Name _ _) (envX _ _ _ _ _ _)) _ _ _); k_dflt (refine nameX_L (by k_asm) (by with_reducible assumption) ?_))) | ((k_here; k_dflt ((with_reducible show wpAny _ _ (PySem.call (Value.ref 271) _ _) _ _ _); (refine' draw_c (by k_asm) (by k_asm) (by k_asm) (by (first | k_asm | exact rot1 (by assumption) | exact rot2 (by assumption) | exact rot3 (by assumption) | exact rot4 (by assumption) | exact rot5 (by assumption) | exact rot6 (by assumption) | exact rot7 (by assumption) | exact rot8 (by assumption))) (by k_asm) (by first | exact rfl | assumption) (by ktr_rel) (by first | assumption | lia) (by assumption) (by cb_room) (by cb_room) (by cb_room) (by cb_room) (by first | cb_room | (simp only [List.size_toArray]; lia)) (by first | cb_room | (simp only [List.size_toArray]; lia)) (by ktr_room) (by ktr_room) ?_); intro v9 t9 t8 n9 h9 tk9 b8 b9 F9 N9; (try dsimp only); (try k_fold)))) | (k_unfold; (try dsimp only)) | (k_end; wrow_close) | walk1 | (dsimp only; walk1))))
  refine kda_item (knd := intKind PySem.Challenge.rw_pb0178_01.row.prog w) (k := z) (by assumption) (.tail _ (.tail _ (.tail _ (.tail _ (.tail _ (.tail _ mp)))))) hkv (by show Value.isInt z (.int z tz) = true; simp [Value.isInt]) hval ?_ (by with_unfolding_all rfl) (by intro _; with_unfolding_all rfl)
  (repeat' (first | ((k_here; (with_reducible show wpAny _ _ (call (Value.builtin "len") [Value.ref _]) _ _ _); k_dflt (refine len_memL (by k_asm) (by repeat (first | assumption | exact .head _ | refine .tail _ ?_)) (by first | lia | (simp only [List.size_toArray]; lia)) ?_))) | ((k_here; (with_reducible show wpAny _ _ (eval (Expr.Name _ _) (envX _ _ _ _ _ _)) _ _ _); k_dflt (refine nameX_L (by k_asm) (by with_reducible assumption) ?_))) | ((k_here; k_dflt ((with_reducible show wpAny _ _ (PySem.call (Value.ref 271) _ _) _ _ _); (refine' draw_c (by k_asm) (by k_asm) (by k_asm) (by (first | k_asm | exact rot1 (by assumption) | exact rot2 (by assumption) | exact rot3 (by assumption) | exact rot4 (by assumption) | exact rot5 (by assumption) | exact rot6 (by assumption) | exact rot7 (by assumption) | exact rot8 (by assumption))) (by k_asm) (by first | exact rfl | assumption) (by ktr_rel) (by first | assumption | lia) (by assumption) (by cb_room) (by cb_room) (by cb_room) (by cb_room) (by first | cb_room | (simp only [List.size_toArray]; lia)) (by first | cb_room | (simp only [List.size_toArray]; lia)) (by ktr_room) (by ktr_room) ?_); intro v9 t9 t8 n9 h9 tk9 b8 b9 F9 N9; (try dsimp only); (try k_fold)))) | (k_unfold; (try dsimp only)) | (k_end; wrow_close) | walk1 | (dsimp only; walk1) | (leave1; walk_say "STEP leave1"; try dsimp only) | fail "no step"))
  subst hz
  exact hret r hr2 _ _ _ _ _ (by assumption) (by assumption)
end
end
section
set_option maxRecDepth 10000
theorem beL_be4 {n : Int} (h0 : 0 ≤ n) (h1 : n < 4294967296) : beL (be4 n) = n := by
  simp only [beL, be4, List.foldl_cons, List.foldl_nil]
  lia
theorem cut_pool {ks ps : List Int} {P : Nat} {x l : Int} (hp : (ks.drop P).take 40 = ps) (h0 : 0 ≤ x) (h1 : 0 ≤ l) (h2 : x + l ≤ 40) : cut ks ((P : Int) + x) l = cut ps x l := by
  obtain ⟨x, rfl⟩ := Int.eq_ofNat_of_zero_le h0
  obtain ⟨l, rfl⟩ := Int.eq_ofNat_of_zero_le h1
  unfold cut
  rw [← hp, show ((P : Int) + (x : Int)).toNat = P + x by lia]
  simp only [Int.toNat_natCast]
  rw [List.drop_take, List.take_take, List.drop_drop, Nat.min_eq_left (by lia)]
theorem tk_at {ks Z : List Int} {b : Nat} (hd : ks.drop b = Z) {i : Int} (j : Nat) (e : i = (b : Int) + (j : Int)) (n : Nat) : (ks.drop i.toNat).take n = (Z.drop j).take n := by
  rw [← hd, List.drop_drop, show i.toNat = b + j by lia]
/-- what the font's block says of the bytes that hold it -/
noncomputable def FSpec.resAt (ks : List Int) (P : Int) (f : FSpec) : FRes := ⟨f.ver, f.rows.map fun r => cut ks (P + r.2.1) r.2.2⟩
theorem ver_b4 {v : Int} (h : verOk v) : beL (be4 v) = v := by rcases h with rfl | rfl | rfl <;> rfl
theorem font_at {ks Y : List Int} {b P : Nat} {f : FSpec} (ok : f.Ok) (hd : ks.drop b = f.bytes (P : Int) ++ Y) (hP : (P : Int) + 40 ≤ (ks.length : Int)) (hap : (P : Int) + 40 ≤ (b : Int) ∨ (b : Int) + f.blk ≤ (P : Int)) (hl : ks.length ≤ 5000) : FontAt ks (b : Int) (f.resAt ks (P : Int)) := by
  have hlen := congrArg List.length hd
  rw [List.length_drop, List.length_append] at hlen
  have hbl := f.bytes_len (P : Int)
  have hbp := f.blk_pos
  cases f with
  | one v x l =>
    obtain ⟨hv, k1, k2, k3, k4⟩ := ok
    simp only [FSpec.blk] at hbl hap
    have e0 : (ks.drop (b : Int).toNat).take 4 = be4 v := tk_at hd 0 (by simp) 4
    have e1 : (ks.drop ((b : Int) + 4).toNat).take 2 = be2 1 := tk_at hd 4 (by lia) 2
    have e2 : (ks.drop ((b : Int) + 12 + 0).toNat).take 4 = tagCodes false := tk_at hd 12 (by lia) 4
    have e3 : (ks.drop ((b : Int) + 12 + 0 + 8).toNat).take 4 = be4 ((P : Int) + x) := tk_at hd 20 (by lia) 4
    have e4 : (ks.drop ((b : Int) + 12 + 0 + 12).toNat).take 4 = be4 l := tk_at hd 24 (by lia) 4
    have r := FontAt.one (ks := ks) (b := (b : Int)) (bg1 := (P : Int) + x) (ln1 := l) (w1 := (b : Int) + 12 + 0) (by lia) (by lia) (by rw [e0, ver_b4 hv]; exact hv) (by rw [e1]; rfl)
      (by rw [e3, beL_be4 (by lia) (by lia)]) (by rw [e4, beL_be4 (by lia) (by lia)]) k3 (by lia) e2 rfl (by lia) (by lia)
    rw [e0, ver_b4 hv] at r
    exact r
  | two v x l k =>
    obtain ⟨hv, k1, k2, k3, k4, k5, k6⟩ := ok
    simp only [FSpec.blk] at hbl hap
    have e0 : (ks.drop (b : Int).toNat).take 4 = be4 v := tk_at hd 0 (by simp) 4
    have e1 : (ks.drop ((b : Int) + 4).toNat).take 2 = be2 2 := tk_at hd 4 (by lia) 2
    have e2 : (ks.drop ((b : Int) + 12 + 0).toNat).take 4 = tagCodes false := tk_at hd 12 (by lia) 4
    have e3 : (ks.drop ((b : Int) + 12 + 0 + 8).toNat).take 4 = be4 ((P : Int) + x) := tk_at hd 20 (by lia) 4
    have e4 : (ks.drop ((b : Int) + 12 + 0 + 12).toNat).take 4 = be4 l := tk_at hd 24 (by lia) 4
    have e5 : (ks.drop ((b : Int) + 12 + 16).toNat).take 4 = tagCodes true := tk_at hd 28 (by lia) 4
    have e6 : (ks.drop ((b : Int) + 12 + 16 + 8).toNat).take 4 = be4 ((P : Int) + (x + l)) := tk_at hd 36 (by lia) 4
    have e7 : (ks.drop ((b : Int) + 12 + 16 + 12).toNat).take 4 = be4 k := tk_at hd 40 (by lia) 4
    have r := FontAt.two (ks := ks) (b := (b : Int)) (bg1 := (P : Int) + x) (ln1 := l) (w1 := (b : Int) + 12 + 0) (bg2 := (P : Int) + (x + l)) (ln2 := k) (w2 := (b : Int) + 12 + 16) (by lia) (by lia) (by rw [e0, ver_b4 hv]; exact hv) (by rw [e1]; rfl)
      (by rw [e3, beL_be4 (by lia) (by lia)]) (by rw [e4, beL_be4 (by lia) (by lia)]) k3 (by lia) e2 rfl (by lia)
      (by rw [e6, beL_be4 (by lia) (by lia)]) (by rw [e7, beL_be4 (by lia) (by lia)]) k5 (by lia) e5 rfl (by lia) (by lia) (by lia)
    rw [e0, ver_b4 hv] at r
    exact r
theorem flat_at {g : Int → List Int} (hg : ∀ z, (g z).length = 4) (tl : List Int) : ∀ (l : List Int) (i : Nat) (hi : i < l.length), (((l.map g).flatten ++ tl).drop (4 * i)).take 4 = g l[i]
  | [], i, hi => by simp at hi
  | a :: l, 0, _ => by
    simp only [List.map_cons, List.flatten_cons, List.append_assoc, Nat.mul_zero, List.drop_zero, List.getElem_cons_zero]
    exact List.take_left' (hg a)
  | a :: l, i + 1, hi => by
    have ih := flat_at hg tl l i (by simpa using hi)
    simp only [List.map_cons, List.flatten_cons, List.append_assoc, List.getElem_cons_succ]
    rw [show 4 * (i + 1) = (g a).length + 4 * i by rw [hg]; lia, ← List.drop_drop, List.drop_left]
    exact ih
theorem flat_len {g : Int → List Int} (hg : ∀ z, (g z).length = 4) : ∀ (l : List Int), ((l.map g).flatten).length = 4 * l.length
  | [] => rfl
  | a :: l => by simp only [List.map_cons, List.flatten_cons, List.length_append, hg, flat_len hg l, List.length_cons]; lia
/-- the collection as it is laid -/
structure Col (fs : List FSpec) (ords : List Int) (pl : Int → Int) (P : Nat) (ps ks : List Int) : Prop where
  head : ∃ ve tl, (ve = 65536 ∨ ve = 131072) ∧ ks = [116, 116, 99, 102] ++ be4 ve ++ be4 (ords.length : Int) ++ (ords.map fun z => be4 (pl z)).flatten ++ tl
  n1 : 1 ≤ ords.length
  n2 : ords.length ≤ 4
  ran : ∀ z ∈ ords, ∃ k : Nat, z = (k : Int) ∧ k < fs.length
  font : ∀ (k : Nat) (hk : k < fs.length), ∃ (b : Nat) (Y : List Int), pl (k : Int) = (b : Int) ∧ 12 + 4 * ords.length ≤ b ∧ ks.drop b = fs[k].bytes (P : Int) ++ Y ∧ ((P : Int) + 40 ≤ (b : Int) ∨ (b : Int) + fs[k].blk ≤ (P : Int))
  sep : ∀ (j k : Nat) (hj : j < fs.length) (hk : k < fs.length), j ≠ k → pl (j : Int) + fs[j].blk ≤ pl (k : Int) ∨ pl (k : Int) + fs[k].blk ≤ pl (j : Int)
  ok : ∀ f ∈ fs, f.Ok
  pool : (ks.drop P).take 40 = ps
  plen : ps.length = 40
  len : ks.length ≤ 1000
section
variable {fs : List FSpec} {ords : List Int} {pl : Int → Int} {P : Nat} {ps ks : List Int}
theorem Col.pool_le (h : Col fs ords pl P ps ks) : (P : Int) + 40 ≤ (ks.length : Int) := by
  have e := congrArg List.length h.pool
  rw [List.length_take, List.length_drop, h.plen] at e
  lia
theorem Col.font_le (h : Col fs ords pl P ps ks) {k : Nat} (hk : k < fs.length) : pl (k : Int) + fs[k].blk ≤ (ks.length : Int) ∧ 16 ≤ pl (k : Int) := by
  obtain ⟨b, Y, e, h1, h2, _⟩ := h.font k hk
  have e2 := congrArg List.length h2
  rw [List.length_drop, List.length_append] at e2
  have e3 := (fs[k]).bytes_len (P : Int)
  have e4 := (fs[k]).blk_pos
  have := h.n1
  lia
theorem Col.offs (h : Col fs ords pl P ps ks) (i : Nat) (hi : i < ords.length) : (ks.drop (12 + 4 * i)).take 4 = be4 (pl ords[i]) := by
  obtain ⟨ve, tl, _, e⟩ := h.head
  have h1 : ks = ([116, 116, 99, 102] ++ be4 ve ++ be4 (ords.length : Int)) ++ ((ords.map fun z => be4 (pl z)).flatten ++ tl) := by rw [e]; simp only [List.append_assoc]
  rw [h1, ← List.drop_drop, show List.drop 12 (([116, 116, 99, 102] ++ be4 ve ++ be4 (ords.length : Int)) ++ ((ords.map fun z => be4 (pl z)).flatten ++ tl)) = (ords.map fun z => be4 (pl z)).flatten ++ tl from rfl]
  exact flat_at (g := fun z => be4 (pl z)) (fun _ => rfl) tl ords i hi
theorem Col.klen (h : Col fs ords pl P ps ks) : 12 + 4 * ords.length ≤ ks.length := by
  obtain ⟨ve, tl, _, e⟩ := h.head
  rw [e]
  have := flat_len (g := fun z => be4 (pl z)) (fun _ => rfl) ords
  simp only [List.length_append, this]
  simp [be4]
theorem Col.good (h : Col fs ords pl P ps ks) : RcGood ks (ords.map fun z => (fs.getD z.toNat (.one 0 0 0)).res ps) := by
  have hn := h.n1
  have hn2 := h.n2
  have hk := h.klen
  obtain ⟨ve, tl, hve, e⟩ := h.head
  refine ⟨by lia, ?_, ?_, ?_, by simp; lia, by simp; lia, by simp; lia, ?_⟩
  · rw [e]; rfl
  · have e1 : (ks.drop (4 : Int).toNat).take 4 = be4 ve := by rw [e]; rfl
    rw [e1]
    rcases hve with rfl | rfl
    · exact .inl rfl
    · exact .inr rfl
  · have e1 : (ks.drop (4 + 4 : Int).toNat).take 4 = be4 (ords.length : Int) := by rw [e]; rfl
    rw [e1, beL_be4 (by lia) (by lia), List.length_map]
  · intro i hi
    rw [List.length_map] at hi
    rw [show (12 + 4 * (i : Int)).toNat = 12 + 4 * i by lia, h.offs i hi, List.getElem_map]
    obtain ⟨k, hz, hkf⟩ := h.ran _ (List.getElem_mem hi)
    rw [hz]
    have hfd : fs.getD ((k : Int)).toNat (.one 0 0 0) = fs[k] := by simp [List.getD_eq_getElem?_getD, List.getElem?_eq_getElem hkf]
    rw [hfd]
    obtain ⟨b, Y, e2, h1, h2, h3⟩ := h.font k hkf
    have hle := h.font_le hkf
    have hlen := h.len
    have hbp := (fs[k]).blk_pos
    rw [beL_be4 (by lia) (by lia), e2]
    have r := font_at (h.ok _ (List.getElem_mem hkf)) h2 h.pool_le h3 (by lia)
    have e3 : (fs[k]).resAt ks (P : Int) = (fs[k]).res ps := by
      have ok := h.ok _ (List.getElem_mem hkf)
      generalize fs[k] = f at ok
      cases f with
      | one v x l =>
        obtain ⟨hv, k1, k2, k3, k4⟩ := ok
        simp only [FSpec.resAt, FSpec.res, FSpec.rows, List.map_cons, List.map_nil]
        rw [cut_pool h.pool k1 k3 (by lia)]
      | two v x l k =>
        obtain ⟨hv, k1, k2, k3, k4, k5, k6⟩ := ok
        simp only [FSpec.resAt, FSpec.res, FSpec.rows, List.map_cons, List.map_nil]
        rw [cut_pool h.pool k1 k3 (by lia), cut_pool h.pool (by lia) k5 (by lia)]
    rw [← e3]
    exact r
theorem tbd_len {ks b : List Int} {a c : Nat} (e : a + b.length = c) (h : c ≤ ks.length) : (ks.take a ++ b ++ ks.drop c).length = ks.length := by
  subst e
  simp only [List.length_append, List.length_take, List.length_drop]
  lia
noncomputable def edit (ks : List Int) (f : Nat) : List Int := ks.take f ++ [9] ++ ks.drop (f + 1)
theorem edit_len {f : Nat} (h : f < ks.length) : (edit ks f).length = ks.length := tbd_len rfl h
theorem edit_lo {f i c : Nat} (h : i + c ≤ f) (hf : f < ks.length) : ((edit ks f).drop i).take c = (ks.drop i).take c := by
  unfold edit
  rw [List.append_assoc, List.drop_append_of_le_length (by rw [List.length_take]; lia), List.take_append_of_le_length (by rw [List.length_drop, List.length_take]; lia), List.drop_take, List.take_take, Nat.min_eq_left (by lia)]
theorem edit_hi {f i : Nat} (h : f + 1 ≤ i) (hf : f < ks.length) : (edit ks f).drop i = ks.drop i := by
  obtain ⟨j, rfl⟩ : ∃ j, i = f + 1 + j := ⟨i - (f + 1), by lia⟩
  have hl : (ks.take f ++ [9]).length = f + 1 := by rw [List.length_append, List.length_take]; simp; lia
  unfold edit
  rw [← List.drop_drop, ← hl, List.drop_left, List.drop_drop, hl]
theorem edit_at {f : Nat} (hf : f < ks.length) : (edit ks f).drop f = 9 :: ks.drop (f + 1) := by
  have hl : (ks.take f).length = f := by rw [List.length_take]; lia
  have e : edit ks f = ks.take f ++ (9 :: ks.drop (f + 1)) := by simp [edit]
  rw [e]
  exact List.drop_left' hl
theorem edit_keep {f b : Nat} {Z Y : List Int} (hd : ks.drop b = Z ++ Y) (hf : f < ks.length) (h : f + 1 ≤ b ∨ b + Z.length ≤ f) : ∃ Y', (edit ks f).drop b = Z ++ Y' := by
  rcases h with h | h
  · exact ⟨Y, by rw [edit_hi h hf, hd]⟩
  · refine ⟨((edit ks f).drop b).drop Z.length, ?_⟩
    have e : ((edit ks f).drop b).take Z.length = Z := by rw [edit_lo h hf, hd, List.take_left]
    conv => lhs; rw [← List.take_append_drop Z.length ((edit ks f).drop b), e]
theorem bad_ver {v : Int} (h : verOk v) : ¬verOk (beL (9 :: (be4 v).drop 1)) := by
  rcases h with rfl | rfl | rfl
  · intro h; revert h; unfold verOk; decide
  · intro h; revert h; unfold verOk; decide
  · intro h; revert h; unfold verOk; decide
theorem Col.hurt (h : Col fs ords pl P ps ks) {r : Nat} (hr : r < ords.length) : ∃ f : Nat, pl ords[r] = (f : Int) ∧ f < ks.length ∧ RcBad (edit ks f) := by
  obtain ⟨z, hz, hzf⟩ := h.ran _ (List.getElem_mem hr)
  obtain ⟨f, Y, e, h1, h2, h3⟩ := h.font z hzf
  have hle := h.font_le hzf
  have hbp := (fs[z]).blk_pos
  have hlen := h.len
  have hn1 := h.n1
  have hn2 := h.n2
  have hk := h.klen
  have hf : f < ks.length := by lia
  refine ⟨f, by rw [hz, e], hf, ?_⟩
  have hL := edit_len hf
  obtain ⟨ve, tl, hve, he⟩ := h.head
  have lo : ∀ i c : Nat, i + c ≤ 12 + 4 * ords.length → ((edit ks f).drop i).take c = (ks.drop i).take c := fun i c hi => edit_lo (by lia) hf
  have hm : (z : Int) ∈ ords := hz ▸ List.getElem_mem hr
  have hi0 : ords.idxOf (z : Int) < ords.length := List.idxOf_lt_length_of_mem hm
  have hat : ords[ords.idxOf (z : Int)] = (z : Int) := List.getElem_idxOf hi0
  have hbefore : ∀ i (hi : i < ords.length), i < ords.idxOf (z : Int) → ords[i] ≠ (z : Int) := fun i hi hlt e => by
    have := List.not_of_lt_findIdx (p := fun x => x == (z : Int)) (xs := ords) hlt
    simp [e] at this
  generalize hidx : ords.idxOf (z : Int) = i0 at hi0 hat hbefore
  refine .font (ords.length : Int) ve ((ords.take i0).map fun y => (fs.getD y.toNat (.one 0 0 0)).resAt (edit ks f) (P : Int)) (by lia) ?_ ?_ hve ?_ (by lia) (by lia) (by lia) (by rw [List.length_map, List.length_take]; lia) ?_ ?_
  · show beL (((edit ks f).drop 0).take 4) = _
    rw [lo 0 4 (by lia), he]; rfl
  · show beL (((edit ks f).drop 4).take 4) = _
    rw [lo 4 4 (by lia), he]
    show beL (be4 ve) = ve
    rcases hve with rfl | rfl <;> rfl
  · show beL (((edit ks f).drop 8).take 4) = _
    rw [lo 8 4 (by lia), he]
    show beL (be4 (ords.length : Int)) = _
    exact beL_be4 (by lia) (by lia)
  · intro i hi
    rw [List.length_map, List.length_take] at hi
    have hi2 : i < ords.length := by lia
    rw [show (12 + 4 * (i : Int)).toNat = 12 + 4 * i by lia, lo _ 4 (by lia), h.offs i hi2, List.getElem_map, List.getElem_take]
    obtain ⟨k, hk2, hkf⟩ := h.ran _ (List.getElem_mem hi2)
    have hkz : k ≠ z := fun e => hbefore i hi2 (by lia) (by rw [hk2, e])
    rw [hk2]
    have hfd : fs.getD ((k : Int)).toNat (.one 0 0 0) = fs[k] := by simp [List.getD_eq_getElem?_getD, List.getElem?_eq_getElem hkf]
    rw [hfd]
    obtain ⟨b, Y2, e2, g1, g2, g3⟩ := h.font k hkf
    have hle2 := h.font_le hkf
    have hbp2 := (fs[k]).blk_pos
    have hsep := h.sep k z hkf hzf hkz
    have hbl := (fs[k]).bytes_len (P : Int)
    rw [beL_be4 (by lia) (by lia), e2]
    obtain ⟨Y', hY⟩ := edit_keep g2 hf (by lia)
    exact font_at (h.ok _ (List.getElem_mem hkf)) hY (by have := h.pool_le; lia) g3 (by lia)
  · rw [List.length_map, List.length_take, Nat.min_eq_left (by lia), show (12 + 4 * (i0 : Int)).toNat = 12 + 4 * i0 by lia, lo _ 4 (by lia), h.offs i0 hi0, hat, e, beL_be4 (by lia) (by lia)]
    refine .vers (by lia) (by lia) ?_
    have hv := FSpec.ver_ok (h.ok _ (List.getElem_mem hzf))
    have e9 : ((edit ks f).drop (f : Int).toNat).take 4 = 9 :: (be4 (fs[z]).ver).drop 1 := by
      show ((edit ks f).drop f).take 4 = _
      rw [edit_at hf]
      have e1 : ks.drop (f + 1) = ((fs[z]).bytes (P : Int) ++ Y).drop 1 := by rw [← h2, List.drop_drop]
      rw [e1]
      rfl
    rw [e9]
    exact bad_ver hv
theorem Col.bads (h : Col fs ords pl P ps ks) {f : Nat} (hb : RcBad (edit ks f)) (hf : f < ks.length) : ∀ x ∈ [[116, 116, 99, 120] ++ ks.drop 4, ks.take 4 ++ [0, 3] ++ ks.drop 6, ks.take 8 ++ [0, 0, 0, 0] ++ ks.drop 12, ks.take 8 ++ be4 65 ++ ks.drop 12 ++ List.replicate 260 0] ++ [edit ks f, ks.take 11, ks.take (11 + 4 * ords.length), ks.take 12 ++ be4 ((ks.length : Int) - 11) ++ ks.drop 16], RcBad x ∧ x.length ≤ 1048576 := by
  have hn1 := h.n1
  have hn2 := h.n2
  have hk := h.klen
  have hlen := h.len
  obtain ⟨ve, tl, hve, he⟩ := h.head
  have hL := edit_len hf
  have hne : beL [116, 116, 99, 120] ≠ 1953784678 := by decide
  intro x hx
  simp only [List.cons_append, List.nil_append, List.mem_cons, List.not_mem_nil, or_false] at hx
  have hlb : ∀ n : Int, (be4 n).length = 4 := fun _ => rfl
  rcases hx with rfl | rfl | rfl | rfl | rfl | rfl | rfl | rfl
  · refine ⟨.early (.magic _ ?_ rfl hne), ?_⟩
    · simp only [List.length_append, List.length_drop, List.length_cons, List.length_nil]; lia
    · simp only [List.length_append, List.length_drop, List.length_cons, List.length_nil]; lia
  · refine ⟨.early (.vers 196608 ?_ ?_ ?_ (by lia)), ?_⟩
    · rw [tbd_len (a := 4) (b := [0, 3]) (c := 6) rfl (by lia)]; lia
    · rw [he]; rfl
    · rw [he]; rcases hve with rfl | rfl <;> rfl
    · rw [tbd_len (a := 4) (b := [0, 3]) (c := 6) rfl (by lia)]; lia
  · refine ⟨.early (.none ve 0 ?_ ?_ ?_ hve ?_ (by lia)), ?_⟩
    · rw [tbd_len (a := 8) (b := [0, 0, 0, 0]) (c := 12) rfl (by lia)]; lia
    · rw [he]; rfl
    · rw [he]; rcases hve with rfl | rfl <;> rfl
    · rw [he]; rfl
    · rw [tbd_len (a := 8) (b := [0, 0, 0, 0]) (c := 12) rfl (by lia)]; lia
  · refine ⟨.early (.many ve 65 ?_ ?_ ?_ hve ?_ (by lia)), ?_⟩
    · rw [List.length_append, tbd_len (a := 8) (b := be4 65) (c := 12) rfl (by lia), List.length_replicate]; lia
    · rw [he]; rfl
    · rw [he]; rcases hve with rfl | rfl <;> rfl
    · rw [he]; rfl
    · rw [List.length_append, tbd_len (a := 8) (b := be4 65) (c := 12) rfl (by lia), List.length_replicate]; lia
  · exact ⟨hb, by lia⟩
  · refine ⟨.early (.short ?_), ?_⟩
    · rw [List.length_take]; lia
    · rw [List.length_take]; lia
  · have e1 : ks.take (11 + 4 * ords.length) = [116, 116, 99, 102] ++ be4 ve ++ be4 (ords.length : Int) ++ (((ords.map fun z => be4 (pl z)).flatten ++ tl).take (4 * ords.length - 1)) := by
      rw [he, show 11 + 4 * ords.length = (4 * ords.length - 1) + 12 by lia, List.append_assoc]
      rfl
    refine ⟨.early (.ends ve (ords.length : Int) ?_ ?_ ?_ hve ?_ (by lia) (by lia) ?_), ?_⟩
    · rw [List.length_take]; lia
    · rw [e1]; rfl
    · rw [e1]; rcases hve with rfl | rfl <;> rfl
    · rw [e1]
      show beL (be4 (ords.length : Int)) = _
      exact beL_be4 (by lia) (by lia)
    · rw [List.length_take]; lia
    · rw [List.length_take]; lia
  · have hl : (ks.take 12 ++ be4 ((ks.length : Int) - 11) ++ ks.drop 16).length = ks.length := tbd_len rfl (by lia)
    have e12 : ks.take 12 = [116, 116, 99, 102] ++ be4 ve ++ be4 (ords.length : Int) := by rw [he]; rfl
    refine ⟨.font (ords.length : Int) ve [] (by lia) ?_ ?_ hve ?_ (by lia) (by lia) (by lia) (by simp; lia) (fun i hi => by simp at hi) ?_, by lia⟩
    · rw [e12]; rfl
    · rw [e12]; rcases hve with rfl | rfl <;> rfl
    · rw [e12]
      show beL (be4 (ords.length : Int)) = _
      exact beL_be4 (by lia) (by lia)
    · have e3 : ((ks.take 12 ++ be4 ((ks.length : Int) - 11) ++ ks.drop 16).drop (12 + 4 * (([] : List FRes).length : Int)).toNat).take 4 = be4 ((ks.length : Int) - 11) := by rw [e12]; rfl
      rw [e3, beL_be4 (by lia) (by lia)]
      exact .ends (by lia) (by lia)
end
end
section
noncomputable def plOf (kvs : List (Int × Value)) (z : Int) : Int := match valueAt kvs z with
  | some (.int v _) => v
  | _ => 0
theorem plOf_eq {kvs : List (Int × Value)} {z v : Int} {t : Tok} (h : valueAt kvs z = some (.int v t)) : plOf kvs z = v := by unfold plOf; rw [h]
theorem col_of {fs : List FSpec} {ords : List Int} {kvs : List (Int × Value)} {b : Bool} {pa bg ve : Int} {ps os hs ks : List Int}
  (hve : ve = 65536 ∨ ve = 131072) (hn1 : 1 ≤ ords.length) (hn2 : ords.length ≤ 4) (hbg : bg = 12 + 4 * (ords.length : Int)) (hpa : pa = if b then bg else bg + (fs.map FSpec.blk).sum) (hord : ∀ z ∈ ords, 0 ≤ z ∧ z < (fs.length : Int)) (hf2 : fs.length ≤ 3) (hok : ∀ f ∈ fs, f.Ok) (hps : ps.length = 40)
  (hL : Laid pa bg fs (if b then ps else []) kvs [] os) (hhs : hs = [116, 116, 99, 102] ++ be4 ve ++ be4 (ords.length : Int)) (hks : ks = hs ++ (ords.map fun z => be4 (plOf kvs z)).flatten ++ (if b then os else os ++ ps)) :
  ∃ P : Nat, pa = (P : Int) ∧ Col fs ords (plOf kvs) P ps ks ∧ (∀ z ∈ ords, 0 ≤ plOf kvs z ∧ plOf kvs z < 4294967296 ∧ ∃ t, valueAt kvs z = some (.int (plOf kvs z) t)) := by
  have hfl := flat_len (g := fun z => be4 (plOf kvs z)) (fun _ => rfl) ords
  have htot := hL.tot
  have hsum := sum_blk_le fs
  simp only [List.map_nil, List.sum_nil, Int.add_zero] at htot
  have hh : (hs ++ (ords.map fun z => be4 (plOf kvs z)).flatten).length = 12 + 4 * ords.length := by rw [List.length_append, hfl, hhs]; simp [be4]
  obtain ⟨G, hG⟩ : ∃ G : Nat, G = 12 + 4 * ords.length := ⟨_, rfl⟩
  obtain ⟨tl, htl⟩ : ∃ tl, tl = (if b then os else os ++ ps) := ⟨_, rfl⟩
  have hpre : (if b then ps else ([] : List Int)).length = (if b then 40 else 0) := by cases b <;> simp [hps]
  rw [hpre] at htot
  have htll : tl.length = os.length + (if b then 0 else 40) := by rw [htl]; cases b <;> simp [hps]
  have hdrop : ∀ j, ks.drop (G + j) = tl.drop j := fun j => by
    rw [hks, ← htl, ← List.drop_drop]
    congr 1
    rw [hG, ← hh, List.drop_left]
  have hkl : ks.length = G + tl.length := by rw [hks, ← htl, List.length_append, hh, hG]
  have hpl0 : 0 ≤ pa := by rw [hpa]; cases b <;> simp <;> lia
  obtain ⟨P, hP⟩ := Int.eq_ofNat_of_zero_le hpl0
  have each : ∀ (k : Nat) (hk : k < fs.length), ∃ A B t, os = A ++ fs[k].bytes pa ++ B ∧ (if b then 40 else 0) ≤ A.length ∧ valueAt kvs (k : Int) = some (.int (bg + (A.length : Int)) t) := by
    intro k hk
    rcases hL.each k hk with ⟨hc, _⟩ | ⟨_, A, B, t, h1, h2, h3⟩
    · simp at hc
    · exact ⟨A, B, t, h1, by rw [hpre] at h2; exact h2, h3⟩
  have hbytes : ∀ (k : Nat) (hk : k < fs.length), ((fs[k].bytes pa).length : Int) = fs[k].blk := fun k hk => fs[k].bytes_len pa
  refine ⟨P, hP, ⟨⟨ve, tl, hve, by rw [hks, hhs, ← htl]⟩, hn1, hn2, ?_, ?_, ?_, hok, ?_, hps, ?_⟩, ?_⟩
  · intro z hz
    obtain ⟨a, c⟩ := hord z hz
    obtain ⟨k, rfl⟩ := Int.eq_ofNat_of_zero_le a
    exact ⟨k, rfl, by lia⟩
  · intro k hk
    obtain ⟨A, B, t, h1, h2, h3⟩ := each k hk
    have hb := hbytes k hk
    refine ⟨G + A.length, B ++ (if b then [] else ps), ?_, by lia, ?_, ?_⟩
    · rw [plOf_eq h3, hbg, hG]; lia
    · rw [hdrop, htl, ← hP]
      cases b
      · simp only [Bool.false_eq_true, if_false]
        rw [h1]
        simp only [List.append_assoc, List.drop_left]
      · simp only [if_true, List.append_nil]
        rw [h1]
        simp only [List.append_assoc, List.drop_left]
    · have hl := congrArg List.length h1
      rw [List.length_append, List.length_append] at hl
      cases b
      · simp only [Bool.false_eq_true, if_false] at hpa h2 htot
        right
        lia
      · simp only [if_true] at hpa h2
        left
        lia
  · intro j k hj hk hjk
    obtain ⟨A, B, t, h1, h2, h3⟩ := each j hj
    obtain ⟨A', B', t', h1', h2', h3'⟩ := each k hk
    rw [plOf_eq h3, plOf_eq h3']
    exact hL.sep j k hj hk _ _ t t' hjk h3 h3'
  · cases b
    · simp only [Bool.false_eq_true, if_false] at hpa htot htl
      have e : P = G + os.length := by lia
      rw [e, hdrop, htl, List.drop_left]
      exact List.take_of_length_le (by lia)
    · simp only [if_true] at hpa htl
      have e : P = G + 0 := by lia
      obtain ⟨X, hX⟩ := hL.ext
      simp only [if_true] at hX
      rw [e, hdrop, htl, List.drop_zero, hX]
      exact List.take_left' hps
  · cases b
    · simp only [Bool.false_eq_true, if_false] at htot htll; lia
    · simp only [if_true] at htot htll; lia
  · intro z hz
    obtain ⟨a, c⟩ := hord z hz
    obtain ⟨k, rfl⟩ := Int.eq_ofNat_of_zero_le a
    have hk : k < fs.length := by lia
    obtain ⟨A, B, t, h1, h2, h3⟩ := each k hk
    have hl := congrArg List.length h1
    rw [List.length_append, List.length_append] at hl
    rw [plOf_eq h3]
    have : (if b then 40 else 0 : Nat) ≤ 40 := by cases b <;> simp
    exact ⟨by lia, by lia, t, h3⟩
end
section
theorem part25 : True := by
  w_top off
  trivial
noncomputable def J1 (L tp c : Addr) (vs : List Value) (n' : Nat) (o1 o2 o3 o4 : Obj) (R : List (Addr × Obj)) (i0 : Int) (i : Nat) (ys : List Value) (news : List (Addr × Obj)) : Prop :=
  ∃ i' t2 n2 R' fs, news = (tp, listOf #[.ref c, .int i' t2] n2) :: (c, listOf vs.toArray n') :: (L + 1, o1) :: (L + 1 + 1, o2) :: (L + 1 + 1 + 1, o3) :: (L + 1 + 1 + 1 + 1, o4) :: (R' ++ R) ∧ Fonts (R' ++ R) ys fs ∧ fs.length = i ∧ (∀ f ∈ fs, FSpec.Ok f) ∧ i0 ≤ i' ∧ i' ≤ i0 + 6 * (i : Int) ∧ LawOff L tp c (R' ++ R)
theorem font_sub {t c i k d a1 a2 a3 a4 : Addr × Obj} {R1 R' R : List (Addr × Obj)} : ∀ p ∈ i :: k :: d :: t :: c :: a1 :: a2 :: a3 :: a4 :: ((R1 ++ R') ++ R), p ∈ t :: c :: (R1 ++ (i :: k :: d :: a1 :: a2 :: a3 :: a4 :: (R' ++ R))) := fun p hp => by
  refine List.subset_def.mp ?_ hp
  repeat (first | refine List.cons_subset.mpr ⟨by repeat (first | exact .head _ | refine .tail _ ?_ | refine List.mem_append_right _ ?_), ?_⟩ | refine List.append_subset.mpr ⟨?_, ?_⟩)
  all_goals first | exact List.nil_subset _ | exact fun _ h => by repeat (first | exact h | exact List.mem_append_left _ h | refine .tail _ ?_ | refine List.mem_append_right _ ?_)
theorem lawOff_more {L tp c : Addr} {R1 R' R : List (Addr × Obj)} (h : LawOff L tp c (R' ++ R)) (k : ∀ p ∈ R1, ∀ b ∈ [tp, c, L + 1, L + 1 + 1, L + 1 + 1 + 1, L + 1 + 1 + 1 + 1], b ≠ p.1) : LawOff L tp c ((R1 ++ R') ++ R) := fun p hp b hb => by
  rw [List.append_assoc] at hp
  rcases List.mem_append.mp hp with hp | hp
  · exact Ne.symm (k p hp b hb)
  · exact h p hp b hb
theorem off_cell2 {L tp c : Addr} {o3 o4 : Obj} {R : List (Addr × Obj)} (h : LawOff L tp c R) : ∀ p ∈ (L + 1 + 1 + 1, o3) :: (L + 1 + 1 + 1 + 1, o4) :: R, p.1 ≠ L + 1 + 1 := fun p hp => by
  rcases List.mem_cons.mp hp with rfl | hp
  · exact Nat.ne_of_gt (Nat.lt_succ_self _)
  rcases List.mem_cons.mp hp with rfl | hp
  · exact Nat.ne_of_gt (Nat.lt_succ_of_lt (Nat.lt_succ_self _))
  · exact h p hp _ (by simp)
theorem mem_off3 {I C D : Addr} {t t' c a1 a2 a3 a4 : Addr × Obj} {R1 R' R : List (Addr × Obj)} (h : PyProof.Rows.LCg.Off3 I C D (t :: c :: a1 :: a2 :: a3 :: a4 :: (R' ++ R))) (e : t'.1 = t.1) (k : ∀ p ∈ R1, I ≠ p.1 ∧ C ≠ p.1 ∧ D ≠ p.1) : PyProof.Rows.LCg.Off3 I C D (t' :: c :: a1 :: a2 :: a3 :: a4 :: ((R1 ++ R') ++ R)) := by
  refine PyProof.Rows.LCg.Off3.of fun p hp => ?_
  have hm := h.mem
  simp only [List.mem_cons, List.mem_append] at hp hm
  rcases hp with rfl | h | h | h | h | h | (h | h) | h
  · rw [e]; exact hm t (.inl rfl)
  · exact hm p (.inr (.inl h))
  · exact hm p (.inr (.inr (.inl h)))
  · exact hm p (.inr (.inr (.inr (.inl h))))
  · exact hm p (.inr (.inr (.inr (.inr (.inl h)))))
  · exact hm p (.inr (.inr (.inr (.inr (.inr (.inl h))))))
  · exact ⟨Ne.symm (k p h).1, Ne.symm (k p h).2.1, Ne.symm (k p h).2.2⟩
  · exact hm p (.inr (.inr (.inr (.inr (.inr (.inr (.inl h)))))))
  · exact hm p (.inr (.inr (.inr (.inr (.inr (.inr (.inr h)))))))
section
variable {w : World} {mean : ExcName → Option Value} {mg mb : PySem.Str → Option Value} {dp un : Nat} {gd : Option (List Code)} {a : Addr} {ccd : Value} {outer : List Env} {A₀ : Around} {base h₀ : Heap} {L : Addr} {m : PySem.Str → Option Value} {s : Shared} {Q : PySem.Flow → Shared → Prop} {E : Value → Shared → Prop}
set_option maxRecDepth 100000 in
set_option maxHeartbeats 8000000 in
theorem st1 {tp c : Addr} {vs : List Value} {ns : List Int} {i : Int} {ti : Tok} {n n' : Nat} {o1 o2 o3 o4 : Obj} {v2 v3 v4 : Option Value} {R : List (Addr × Obj)}
  (B : Below A₀ base outer h₀) (F : Fr h₀ L s.heap m) (X : (Mine.hd.heap_39 w.params).In h₀) (N : News h₀ L s.heap ((tp, listOf #[.ref c, .int i ti] n) :: (c, listOf vs.toArray n') :: (L + 1, o1) :: (L + 1 + 1, o2) :: (L + 1 + 1 + 1, o3) :: (L + 1 + 1 + 1 + 1, o4) :: R)) (T : Top Mine.hd.view_39 (looseW Mine.hd.view_39 [Str.ofString "ShapeError", Str.ofString "VERSIONS"]) mean mg mb h₀)
  (hd : dp ≤ 310) (hu : un ≤ 1200) (hi : IntsAre vs ns) (hn1 : 1 ≤ ns.length) (hn2 : ns.length ≤ 60) (d1 : o1.data = .cell (some (.ref tp))) (htp : @LT.lt Nat _ (L + 1 + 1 + 1 + 1) tp) (htc : @LT.lt Nat _ (L + 1 + 1 + 1 + 1) c) (hct : @Ne Nat c tp) (off : LawOff L tp c R) (d2 : o2.data = .cell v2) (h0 : 0 ≤ i) (h1 : i < 100)
  (hret : ∀ fl fvs fs R' i' t2 n2 o2' h' tk', Fonts (R' ++ R) fvs fs → 1 ≤ fs.length → fs.length ≤ 3 → (∀ f ∈ fs, FSpec.Ok f) → 0 ≤ i' → i' ≤ i + 20 → o2'.data = .cell (some (.ref fl)) → LawOff L tp c ((fl, LCg.lst fvs) :: (R' ++ R)) → Fr h₀ L h' m → News h₀ L h' ((tp, listOf #[.ref c, .int i' t2] n2) :: (c, listOf vs.toArray n') :: (L + 1, o1) :: (L + 1 + 1, o2') :: (L + 1 + 1 + 1, o3) :: (L + 1 + 1 + 1 + 1, o4) :: ((fl, LCg.lst fvs) :: (R' ++ R))) → Q .next { s with heap := h', toks := tk' }) :
  wpAny (model PySem.Challenge.rw_pb0178_01.row.prog w) (ktrTop dp un gd lawN lawSc L a ccd (lawCl L) outer) (exec (lawS 1) (envX lawN lawSc L a ccd (lawCl L))) Q E s := by
  have offT := off.t
  with_unfolding_all (show wpAny _ _ (exec (Stmt.Assign _ (Expr.ListComp _ _ _ _) _) _) _ _ _)
  refine wpAny_Assign_Name ?_ (by with_unfolding_all rfl)
  refine ListComp_W (F₀ := F) (by with_unfolding_all rfl) (by decide) (by rfl) (by decide) (by rfl) (by intro _; with_unfolding_all rfl) ?_
  repeat' (first | ((fail_if_success (with_reducible show CompSrcW _ _ _ _ _ _ _ _ _ _ _ _ _ _)); (first | ((k_here; (with_reducible show wpAny _ _ (call (Value.builtin "len") [Value.ref _]) _ _ _); k_dflt (refine len_memL (by k_asm) (by first | with_reducible assumption | exact mem_of (by with_reducible assumption) | (repeat (first | exact .head _ | refine .tail _ ?_)) | (repeat (first | with_reducible assumption | refine .tail _ ?_))) (by first | assumption | (simp only [List.size_toArray]; lia)) ?_))) | ((k_here; (with_reducible show wpAny _ _ (eval (Expr.Name _ _) (envX _ _ _ _ _ _)) _ _ _); k_dflt (refine nameX_L (by k_asm) (by with_reducible assumption) ?_))) | ((with_reducible show wpAny _ _ (PySem.call (Value.type "range") _ _) _ _ _); (k_here; k_dflt ((rename Fr _ _ _ _ => fR'); (rename News _ _ _ _ => nR'); (with_unfolding_all refine range1_rows fR' nR' ?_); intro _ _ _ _ _ _ _ _ _))) | ((k_here; k_dflt ((with_reducible show wpAny _ _ (PySem.call (Value.ref 271) _ _) _ _ _); (refine' draw_c (by k_asm) (by k_asm) (by k_asm) (by (first | k_asm | exact rot1 (by assumption) | exact rot2 (by assumption) | exact rot3 (by assumption) | exact rot4 (by assumption) | exact rot5 (by assumption) | exact rot6 (by assumption) | exact rot7 (by assumption) | exact rot8 (by assumption))) (by k_asm) (by first | exact rfl | assumption) (by ktr_rel) (by first | assumption | lia) (by assumption) (by cb_room) (by cb_room) (by cb_room) (by cb_room) (by cb_room) (by cb_room) (by ktr_room) (by ktr_room) ?_); intro v9 t9 t8 n9 h9 tk9 b8 b9 F9 N9; (try dsimp only); (try k_fold)))) | (k_unfold; (try dsimp only)) | (k_end; wrow_close) | walk1 | (dsimp only; walk1))))
  (rename IsRange _ _ _ _ _ _ _ _ => hIR)
  (rename News _ _ _ _ => nR)
  (rename Fr _ _ _ _ => fR)
  (rename (_ : Int) < 3 => b9)
  (rename 0 ≤ (_ : Int) => b8)
  obtain ⟨n3, hn3⟩ := nat1 b8
  refine CompSrcW.mk (iter_range (n := n3) hIR ?sm ?sz rfl fR nR) fR nR ?hsz trivial fun g => compRest_inv (J1 L tp c vs n' o1 o2 o3 o4 R (i + 1)) ?j0 ?step ?fin
  case sz => simp [Builtin.Range.rangeSize]; lia
  case sm => exact range_small (n := n3) (by simp [Builtin.Range.rangeSize]; lia) (by lia) (by lia) (by lia) (by lia) (by decide) (by decide) (by lia)
  case hsz => rw [sizeLine_eq]; lia
  case j0 => exact ⟨_, _, _, [], [], rfl, .nil, rfl, (fun _ h => nomatch h), Int.le_refl _, by lia, off⟩
  case step =>
    clear nR fR
    intro j ys news v I oI C oC D m₂ h tk E' hj hJ hP hC hx F₁ N₁ off₁ ne
    obtain ⟨i', t2, n2, R', fs, rfl, hfo, hfl, hok, hi1, hi2, hoff⟩ := hJ
    obtain ⟨tt, rfl⟩ := hP
    repeat' (first | ((fail_if_success (with_reducible show wpAny _ _ (PySem.call (Value.ref 281) _ _) _ _ _)); (first | ((k_here; (with_reducible show wpAny _ _ (call (Value.builtin "len") [Value.ref _]) _ _ _); k_dflt (refine len_memL (by k_asm) (by first | with_reducible assumption | exact mem_of (by with_reducible assumption) | (repeat (first | exact .head _ | refine .tail _ ?_)) | (repeat (first | with_reducible assumption | refine .tail _ ?_))) (by first | assumption | (simp only [List.size_toArray]; lia)) ?_))) | ((k_here; (with_reducible show wpAny _ _ (eval (Expr.Name _ _) (envX _ _ _ _ _ _)) _ _ _); k_dflt (refine nameX_L (by k_asm) (by with_reducible assumption) ?_))) | ((with_reducible show wpAny _ _ (PySem.call (Value.type "range") _ _) _ _ _); (k_here; k_dflt ((rename Fr _ _ _ _ => fR'); (rename News _ _ _ _ => nR'); (with_unfolding_all refine range1_rows fR' nR' ?_); intro _ _ _ _ _ _ _ _ _))) | ((k_here; k_dflt ((with_reducible show wpAny _ _ (PySem.call (Value.ref 271) _ _) _ _ _); (refine' draw_c (by k_asm) (by k_asm) (by k_asm) (by (first | k_asm | exact rot1 (by assumption) | exact rot2 (by assumption) | exact rot3 (by assumption) | exact rot4 (by assumption) | exact rot5 (by assumption) | exact rot6 (by assumption) | exact rot7 (by assumption) | exact rot8 (by assumption))) (by k_asm) (by first | exact rfl | assumption) (by ktr_rel) (by first | assumption | lia) (by assumption) (by cb_room) (by cb_room) (by cb_room) (by cb_room) (by cb_room) (by cb_room) (by ktr_room) (by ktr_room) ?_); intro v9 t9 t8 n9 h9 tk9 b8 b9 F9 N9; (try dsimp only); (try k_fold)))) | (k_unfold; (try dsimp only)) | (k_end; wrow_close) | walk1 | (dsimp only; walk1))))
    have oI : tp ≠ I := off₁.1.1
    have oC : tp ≠ C := off₁.1.2.1
    have oD : tp ≠ D := off₁.1.2.2
    refine font_c B F₁ X (rot3 N₁) T lawSc_fn (own_cons ⟨Ne.symm oI, trivial⟩ (own_cons ⟨Ne.symm oC, trivial⟩ (own_cons ⟨Ne.symm oD, trivial⟩ (own_cons ⟨by lia, trivial⟩ (own_cons ⟨by lia, trivial⟩ (own_cons ⟨by lia, trivial⟩ (own_cons ⟨by lia, trivial⟩ hoff.t)))))))
      hct hi hn1 hn2 (by lia) (by lia) (by lia) (by lia) (by ktr_room) (by ktr_room) ?_
    intro v f R1 i2 t3 n3 h' tk' hok2 hfo2 hl1 hl2 hno F₂ N₂
    have kn : ∀ p ∈ R1, ∀ q ∈ (_ : List (Addr × Obj)), q.1 ≠ p.1 := hno
    refine PyProof.Rows.LCg.CompEnd.intro (all := _) F₂ N₂ _ font_sub (mem_off3 off₁ rfl ?o1) trivial ⟨i2, t3, n3, R1 ++ R', fs ++ [f], rfl, .snoc (hfo.mono ?m1) (hfo2.mono ?m2), by rw [List.length_append, hfl]; rfl, ?ok, by lia, by lia, lawOff_more hoff ?o2⟩
    case o1 => exact fun p hp => ⟨kn p hp (I, _) (.tail _ (.tail _ (.head _))), kn p hp (C, _) (.tail _ (.tail _ (.tail _ (.head _)))), kn p hp (D, _) (.tail _ (.tail _ (.tail _ (.tail _ (.head _)))))⟩
    case m1 => exact fun p hp => by rw [List.append_assoc]; exact List.mem_append_right _ hp
    case m2 => exact fun p hp => List.mem_append_left _ (List.mem_append_left _ hp)
    case ok =>
      intro g hg
      rcases List.mem_append.mp hg with hg | hg
      · exact hok g hg
      · rw [List.mem_singleton.mp hg]; exact hok2
    case o2 =>
      intro p hp b hb
      simp only [List.mem_cons, List.not_mem_nil, or_false] at hb
      rcases hb with rfl | rfl | rfl | rfl | rfl | rfl
      · exact kn p hp (_, _) (.head _)
      · exact kn p hp (_, _) (.tail _ (.head _))
      · exact kn p hp (L + 1, o1) (by repeat (first | exact .head _ | refine .tail _ ?_))
      · exact kn p hp (L + 1 + 1, o2) (by repeat (first | exact .head _ | refine .tail _ ?_))
      · exact kn p hp (L + 1 + 1 + 1, o3) (by repeat (first | exact .head _ | refine .tail _ ?_))
      · exact kn p hp (L + 1 + 1 + 1 + 1, o4) (by repeat (first | exact .head _ | refine .tail _ ?_))
  case fin =>
    intro ys news' hJ
    obtain ⟨i', t2, n2, R', fs, rfl, hfo, hfl, hok, hi1, hi2, hoff⟩ := hJ
    intro D h' tk' F₂ N₂ oD
    clear nR fR
    (repeat' (first | ((k_here; (with_reducible show wpAny _ _ (call (Value.builtin "len") [Value.ref _]) _ _ _); k_dflt (refine len_memL (by k_asm) (by first | with_reducible assumption | exact mem_of (by with_reducible assumption) | (repeat (first | exact .head _ | refine .tail _ ?_)) | (repeat (first | with_reducible assumption | refine .tail _ ?_))) (by first | assumption | (simp only [List.size_toArray]; lia)) ?_))) | ((k_here; (with_reducible show wpAny _ _ (eval (Expr.Name _ _) (envX _ _ _ _ _ _)) _ _ _); k_dflt (refine nameX_L (by k_asm) (by with_reducible assumption) ?_))) | ((with_reducible show wpAny _ _ (PySem.call (Value.type "range") _ _) _ _ _); (k_here; k_dflt ((rename Fr _ _ _ _ => fR'); (rename News _ _ _ _ => nR'); (with_unfolding_all refine range1_rows fR' nR' ?_); intro _ _ _ _ _ _ _ _ _))) | ((k_here; k_dflt ((with_reducible show wpAny _ _ (PySem.call (Value.ref 271) _ _) _ _ _); (refine' draw_c (by k_asm) (by k_asm) (by k_asm) (by (first | k_asm | exact rot1 (by assumption) | exact rot2 (by assumption) | exact rot3 (by assumption) | exact rot4 (by assumption) | exact rot5 (by assumption) | exact rot6 (by assumption) | exact rot7 (by assumption) | exact rot8 (by assumption))) (by k_asm) (by first | exact rfl | assumption) (by ktr_rel) (by first | assumption | lia) (by assumption) (by cb_room) (by cb_room) (by cb_room) (by cb_room) (by cb_room) (by cb_room) (by ktr_room) (by ktr_room) ?_); intro v9 t9 t8 n9 h9 tk9 b8 b9 F9 N9; (try dsimp only); (try k_fold)))) | (k_unfold; (try dsimp only)) | (k_end; wrow_close) | walk1 | (dsimp only; walk1) | (leave1; walk_say "STEP leave1"; try dsimp only) | fail "no step"))
    have q1 : tp ≠ D := oD.1
    have q2 : c ≠ D := oD.2.1
    have q3 : L + 1 ≠ D := oD.2.2.1
    have q4 : L + 1 + 1 ≠ D := oD.2.2.2.1
    have q5 : L + 1 + 1 + 1 ≠ D := oD.2.2.2.2.1
    have q6 : L + 1 + 1 + 1 + 1 ≠ D := oD.2.2.2.2.2.1
    refine storeX_C F₂ N₂ rfl (.tail (Ne.symm q4) (.tail ?a1 (.tail ?a2 (.tail ?a3 (.head ?a4))))) d2 ?_ lawSc_fn (by with_unfolding_all rfl)
    case a1 => exact Nat.ne_of_gt (by lia)
    case a2 => exact Nat.ne_of_gt (by lia)
    case a3 => exact Nat.ne_of_lt (Nat.lt_succ_self _)
    case a4 => exact off_cell2 hoff
    intro h2 o2' F₃ N₃ d2'
    exact hret D ys fs R' i' t2 n2 o2' _ _ hfo (by lia) (by lia) hok (by lia) (by lia) d2' (own_cons ⟨Ne.symm q1, Ne.symm q2, Ne.symm q3, Ne.symm q4, Ne.symm q5, Ne.symm q6, trivial⟩ hoff) F₃ (rotD N₃)
end
end
section
theorem part26 : True := by
  w_top off
  trivial
noncomputable def J2 (L tp c : Addr) (vs : List Value) (n' : Nat) (o1 o2 o3 o4 : Obj) (R : List (Addr × Obj)) (nf i0 : Int) (i : Nat) (ys : List Value) (news : List (Addr × Obj)) : Prop :=
  ∃ i' t2 n2 os, news = (tp, listOf #[.ref c, .int i' t2] n2) :: (c, listOf vs.toArray n') :: (L + 1, o1) :: (L + 1 + 1, o2) :: (L + 1 + 1 + 1, o3) :: (L + 1 + 1 + 1 + 1, o4) :: R ∧ IntsAre ys os ∧ os.length = i ∧ (∀ o ∈ os, 0 ≤ o ∧ o < nf) ∧ i0 ≤ i' ∧ i' ≤ i0 + (i : Int)
section
variable {w : World} {mean : ExcName → Option Value} {mg mb : PySem.Str → Option Value} {dp un : Nat} {gd : Option (List Code)} {a : Addr} {ccd : Value} {outer : List Env} {A₀ : Around} {base h₀ : Heap} {L : Addr} {m : PySem.Str → Option Value} {s : Shared} {Q : PySem.Flow → Shared → Prop} {E : Value → Shared → Prop}
set_option maxRecDepth 100000 in
set_option maxHeartbeats 8000000 in
theorem st2 {tp c : Addr} {vs : List Value} {ns : List Int} {i : Int} {ti : Tok} {n n' : Nat} {o1 o2 o3 o4 : Obj} {v2 v3 v4 : Option Value} {fl : Addr} {fvs : List Value} {fn : Nat} {R : List (Addr × Obj)}
  (B : Below A₀ base outer h₀) (F : Fr h₀ L s.heap m) (X : (Mine.hd.heap_39 w.params).In h₀) (N : News h₀ L s.heap ((tp, listOf #[.ref c, .int i ti] n) :: (c, listOf vs.toArray n') :: (L + 1, o1) :: (L + 1 + 1, o2) :: (L + 1 + 1 + 1, o3) :: (L + 1 + 1 + 1 + 1, o4) :: R)) (T : Top Mine.hd.view_39 (looseW Mine.hd.view_39 [Str.ofString "ShapeError", Str.ofString "VERSIONS"]) mean mg mb h₀)
  (hd : dp ≤ 310) (hu : un ≤ 1200) (hi : IntsAre vs ns) (hn1 : 1 ≤ ns.length) (hn2 : ns.length ≤ 60) (d1 : o1.data = .cell (some (.ref tp))) (htp : @LT.lt Nat _ (L + 1 + 1 + 1 + 1) tp) (htc : @LT.lt Nat _ (L + 1 + 1 + 1 + 1) c) (hct : @Ne Nat c tp) (off : LawOff L tp c R) (d2 : o2.data = .cell (some (.ref fl))) (mf : (fl, W.listOf fvs.toArray fn) ∈ R) (hf1 : 1 ≤ fvs.length) (hf2 : fvs.length ≤ 3) (h0 : 0 ≤ i) (h1 : i < 100)
  (hret : ∀ ol ovs os i' t2 n2 h' tk', IntsAre ovs os → 1 ≤ os.length → os.length ≤ 4 → (∀ o ∈ os, 0 ≤ o ∧ o < (fvs.length : Int)) → 0 ≤ i' → i' ≤ i + 5 → LawOff L tp c ((ol, LCg.lst ovs) :: R) → Fr h₀ L h' (fun z => if z = Str.ofString "order" then some (.ref ol) else m z) → News h₀ L h' ((tp, listOf #[.ref c, .int i' t2] n2) :: (c, listOf vs.toArray n') :: (L + 1, o1) :: (L + 1 + 1, o2) :: (L + 1 + 1 + 1, o3) :: (L + 1 + 1 + 1 + 1, o4) :: ((ol, LCg.lst ovs) :: R)) → Q .next { s with heap := h', toks := tk' }) :
  wpAny (model PySem.Challenge.rw_pb0178_01.row.prog w) (ktrTop dp un gd lawN lawSc L a ccd (lawCl L) outer) (exec (lawS 2) (envX lawN lawSc L a ccd (lawCl L))) Q E s := by
  have offT := off.t
  with_unfolding_all (show wpAny _ _ (exec (Stmt.Assign _ (Expr.ListComp _ _ _ _) _) _) _ _ _)
  refine Assign_ListComp_W (F₀ := F) rfl (by with_unfolding_all rfl) (by with_unfolding_all rfl) (by decide) (by rfl) (by decide) (by rfl) (by rfl) (by rfl) (by intro _; with_unfolding_all rfl) ?_
  repeat' (first | ((fail_if_success (with_reducible show CompSrcW _ _ _ _ _ _ _ _ _ _ _ _ _ _)); (first | ((k_here; (with_reducible show wpAny _ _ (call (Value.builtin "len") [Value.ref _]) _ _ _); k_dflt (refine len_memL (by k_asm) (by repeat (first | assumption | exact .head _ | refine .tail _ ?_)) (by first | assumption | (simp only [List.size_toArray]; lia)) ?_))) | ((k_here; (with_reducible show wpAny _ _ (eval (Expr.Name _ _) (envX _ _ _ _ _ _)) _ _ _); k_dflt (refine nameX_L (by k_asm) (by with_reducible assumption) ?_))) | ((with_reducible show wpAny _ _ (PySem.call (Value.type "range") _ _) _ _ _); (k_here; k_dflt ((rename Fr _ _ _ _ => fR'); (rename News _ _ _ _ => nR'); (with_unfolding_all refine range1_rows fR' nR' ?_); intro _ _ _ _ _ _ _ _ _))) | ((k_here; k_dflt ((with_reducible show wpAny _ _ (PySem.call (Value.ref 271) _ _) _ _ _); (refine' draw_c (by k_asm) (by k_asm) (by k_asm) (by (first | k_asm | exact rot1 (by assumption) | exact rot2 (by assumption) | exact rot3 (by assumption) | exact rot4 (by assumption) | exact rot5 (by assumption) | exact rot6 (by assumption) | exact rot7 (by assumption) | exact rot8 (by assumption))) (by k_asm) (by first | exact rfl | assumption) (by ktr_rel) (by first | assumption | lia) (by assumption) (by cb_room) (by cb_room) (by cb_room) (by cb_room) (by cb_room) (by cb_room) (by ktr_room) (by ktr_room) ?_); intro v9 t9 t8 n9 h9 tk9 b8 b9 F9 N9; (try dsimp only); (try k_fold)))) | (k_unfold; (try dsimp only)) | (k_end; wrow_close) | walk1 | (dsimp only; walk1))))
  (rename IsRange _ _ _ _ _ _ _ _ => hIR)
  (rename News _ _ _ _ => nR)
  (rename Fr _ _ _ _ => fR)
  (rename (_ : Int) < 4 => b9)
  (rename 0 ≤ (_ : Int) => b8)
  obtain ⟨n3, hn3⟩ := nat1 b8
  refine CompSrcW.mk (iter_range (n := n3) hIR ?sm ?sz rfl fR nR) fR nR ?hsz trivial fun g => compRest_inv (J2 L tp c vs n' o1 o2 o3 o4 R (fvs.length : Int) (i + 1)) ?j0 ?step ?fin
  case sz => simp [Builtin.Range.rangeSize]; lia
  case sm => exact range_small (n := n3) (by simp [Builtin.Range.rangeSize]; lia) (by lia) (by lia) (by lia) (by lia) (by decide) (by decide) (by lia)
  case hsz => rw [sizeLine_eq]; lia
  case j0 => exact ⟨_, _, _, [], rfl, .nil, rfl, (fun _ h => nomatch h), Int.le_refl _, by lia⟩
  case step =>
    clear nR fR
    intro j ys news v I oI C oC D m₂ h tk E' hj hJ hP hC hx F₁ N₁ off₁ ne
    obtain ⟨i', t2, n2, os, rfl, hio, hol, hob, hi1, hi2⟩ := hJ
    obtain ⟨tt, rfl⟩ := hP
    have oI : tp ≠ I := off₁.1.1
    have oC : tp ≠ C := off₁.1.2.1
    have oD : tp ≠ D := off₁.1.2.2
    repeat' (first | ((fail_if_success (with_reducible show wpAny _ _ (PySem.call (Value.ref 271) _ _) _ _ _)); (first | ((k_here; (with_reducible show wpAny _ _ (call (Value.builtin "len") [Value.ref _]) _ _ _); k_dflt (refine len_memL (by k_asm) (by repeat (first | assumption | exact .head _ | refine .tail _ ?_)) (by first | assumption | (simp only [List.size_toArray]; lia)) ?_))) | ((k_here; (with_reducible show wpAny _ _ (eval (Expr.Name _ _) (envX _ _ _ _ _ _)) _ _ _); k_dflt (refine nameX_L (by k_asm) (by with_reducible assumption) ?_))) | ((with_reducible show wpAny _ _ (PySem.call (Value.type "range") _ _) _ _ _); (k_here; k_dflt ((rename Fr _ _ _ _ => fR'); (rename News _ _ _ _ => nR'); (with_unfolding_all refine range1_rows fR' nR' ?_); intro _ _ _ _ _ _ _ _ _))) | ((k_here; k_dflt ((with_reducible show wpAny _ _ (PySem.call (Value.ref 271) _ _) _ _ _); (refine' draw_c (by k_asm) (by k_asm) (by k_asm) (by (first | k_asm | exact rot1 (by assumption) | exact rot2 (by assumption) | exact rot3 (by assumption) | exact rot4 (by assumption) | exact rot5 (by assumption) | exact rot6 (by assumption) | exact rot7 (by assumption) | exact rot8 (by assumption))) (by k_asm) (by first | exact rfl | assumption) (by ktr_rel) (by first | assumption | lia) (by assumption) (by cb_room) (by cb_room) (by cb_room) (by cb_room) (by cb_room) (by cb_room) (by ktr_room) (by ktr_room) ?_); intro v9 t9 t8 n9 h9 tk9 b8 b9 F9 N9; (try dsimp only); (try k_fold)))) | (k_unfold; (try dsimp only)) | (k_end; wrow_close) | walk1 | (dsimp only; walk1))))
    refine' draw_c B F₁ X ?kN T lawSc_fn ?s0 hct hi hn1 hn2 ?s1 ?s2 ?s3 ?s4 ?kd ?ku ?_
    case kN => exact rot3 N₁
    case s0 => exact (own_cons ⟨Ne.symm oI, trivial⟩ (own_cons ⟨Ne.symm oC, trivial⟩ (own_cons ⟨Ne.symm oD, trivial⟩ (own_cons ⟨by lia, trivial⟩ (own_cons ⟨by lia, trivial⟩ (own_cons ⟨by lia, trivial⟩ (own_cons ⟨by lia, trivial⟩ off.t)))))))
    case s1 => lia
    case s2 => lia
    case s3 => (simp only [List.size_toArray]; lia)
    case s4 => (simp only [List.size_toArray]; lia)
    case kd => ktr_room
    case ku => ktr_room
    intro v t t3 n3 h' tk' hv0 hv1 F₂ N₂
    simp only [List.size_toArray] at hv1
    refine PyProof.Rows.LCg.CompEnd.intro (all := _) F₂ N₂ _ in3_back (off3_same off₁ rfl) trivial ⟨i' + 1, t3, n3, os ++ [v], rfl, ints_snoc hio v t, by rw [List.length_append, hol]; rfl, ?ok, by lia, by lia⟩
    case ok =>
      intro g hg
      rcases List.mem_append.mp hg with hg | hg
      · exact hob g hg
      · rw [List.mem_singleton.mp hg]; exact ⟨hv0, hv1⟩
  case fin =>
    intro ys news' hJ
    obtain ⟨i', t2, n2, os, rfl, hio, hol, hob, hi1, hi2⟩ := hJ
    intro D h' tk' F₂ N₂ oD
    have q1 : tp ≠ D := oD.1
    have q2 : c ≠ D := oD.2.1
    have q3 : L + 1 ≠ D := oD.2.2.1
    have q4 : L + 1 + 1 ≠ D := oD.2.2.2.1
    have q5 : L + 1 + 1 + 1 ≠ D := oD.2.2.2.2.1
    have q6 : L + 1 + 1 + 1 + 1 ≠ D := oD.2.2.2.2.2.1
    exact hret D ys os i' t2 n2 _ _ hio (by lia) (by lia) hob (by lia) (by lia) (own_cons ⟨Ne.symm q1, Ne.symm q2, Ne.symm q3, Ne.symm q4, Ne.symm q5, Ne.symm q6, trivial⟩ off) F₂ (rotD N₂)
end
end
section
theorem part27 : True := by
  w_top off
  trivial
noncomputable def J3 (L tp c : Addr) (vs : List Value) (n' : Nat) (o1 o2 o3 o4 : Obj) (R : List (Addr × Obj)) (i0 : Int) (i : Nat) (ys : List Value) (news : List (Addr × Obj)) : Prop :=
  ∃ i' t2 n2 os, news = (tp, listOf #[.ref c, .int i' t2] n2) :: (c, listOf vs.toArray n') :: (L + 1, o1) :: (L + 1 + 1, o2) :: (L + 1 + 1 + 1, o3) :: (L + 1 + 1 + 1 + 1, o4) :: R ∧ IntsAre ys os ∧ os.length = i ∧ (∀ o ∈ os, 0 ≤ o ∧ o < 256) ∧ i0 ≤ i' ∧ i' ≤ i0 + (i : Int)
section
variable {w : World} {mean : ExcName → Option Value} {mg mb : PySem.Str → Option Value} {dp un : Nat} {gd : Option (List Code)} {a : Addr} {ccd : Value} {outer : List Env} {A₀ : Around} {base h₀ : Heap} {L : Addr} {m : PySem.Str → Option Value} {s : Shared} {Q : PySem.Flow → Shared → Prop} {E : Value → Shared → Prop}
set_option maxRecDepth 100000 in
set_option maxHeartbeats 8000000 in
theorem st3 {tp c : Addr} {vs : List Value} {ns : List Int} {i : Int} {ti : Tok} {n n' : Nat} {o1 o2 o3 o4 : Obj} {v2 v3 v4 : Option Value} {R : List (Addr × Obj)}
  (B : Below A₀ base outer h₀) (F : Fr h₀ L s.heap m) (X : (Mine.hd.heap_39 w.params).In h₀) (N : News h₀ L s.heap ((tp, listOf #[.ref c, .int i ti] n) :: (c, listOf vs.toArray n') :: (L + 1, o1) :: (L + 1 + 1, o2) :: (L + 1 + 1 + 1, o3) :: (L + 1 + 1 + 1 + 1, o4) :: R)) (T : Top Mine.hd.view_39 (looseW Mine.hd.view_39 [Str.ofString "ShapeError", Str.ofString "VERSIONS"]) mean mg mb h₀)
  (hd : dp ≤ 310) (hu : un ≤ 1200) (hi : IntsAre vs ns) (hn1 : 1 ≤ ns.length) (hn2 : ns.length ≤ 60) (d1 : o1.data = .cell (some (.ref tp))) (htp : @LT.lt Nat _ (L + 1 + 1 + 1 + 1) tp) (htc : @LT.lt Nat _ (L + 1 + 1 + 1 + 1) c) (hct : @Ne Nat c tp) (off : LawOff L tp c R) (d3 : o3.data = .cell v3) (h0 : 0 ≤ i) (h1 : i < 150)
  (hret : ∀ p tb ps i' t2 n2 o3' h' tk', KBw.bInts p = ps → ps.length = 40 → 0 ≤ i' → i' ≤ i + 40 → o3'.data = .cell (some (.bytes p tb)) → Fr h₀ L h' m → News h₀ L h' ((tp, listOf #[.ref c, .int i' t2] n2) :: (c, listOf vs.toArray n') :: (L + 1, o1) :: (L + 1 + 1, o2) :: (L + 1 + 1 + 1, o3') :: (L + 1 + 1 + 1 + 1, o4) :: R) → Q .next { s with heap := h', toks := tk' }) :
  wpAny (model PySem.Challenge.rw_pb0178_01.row.prog w) (ktrTop dp un gd lawN lawSc L a ccd (lawCl L) outer) (exec (lawS 3) (envX lawN lawSc L a ccd (lawCl L))) Q E s := by
  have offT := off.t
  with_unfolding_all (show wpAny _ _ (exec (Stmt.Assign _ (Expr.Call _ _ _ _) _) _) _ _ _)
  refine wpAny_Assign_Name ?_ (by with_unfolding_all rfl)
  repeat' (first | ((fail_if_success (with_reducible show wpAny _ _ (eval (Expr.ListComp _ _ _ _) _) _ _ _)); (first | ((k_here; (with_reducible show wpAny _ _ (call (Value.builtin "len") [Value.ref _]) _ _ _); k_dflt (refine len_memL (by k_asm) (by repeat (first | assumption | exact .head _ | refine .tail _ ?_)) (by first | assumption | (simp only [List.size_toArray]; lia)) ?_))) | ((k_here; (with_reducible show wpAny _ _ (eval (Expr.Name _ _) (envX _ _ _ _ _ _)) _ _ _); k_dflt (refine nameX_L (by k_asm) (by with_reducible assumption) ?_))) | ((with_reducible show wpAny _ _ (PySem.call (Value.type "range") _ _) _ _ _); (k_here; k_dflt ((rename Fr _ _ _ _ => fR'); (rename News _ _ _ _ => nR'); (with_unfolding_all refine range1_rows fR' nR' ?_); intro _ _ _ _ _ _ _ _ _))) | ((k_here; k_dflt ((with_reducible show wpAny _ _ (PySem.call (Value.ref 271) _ _) _ _ _); (refine' draw_c (by k_asm) (by k_asm) (by k_asm) (by (first | k_asm | exact rot1 (by assumption) | exact rot2 (by assumption) | exact rot3 (by assumption) | exact rot4 (by assumption) | exact rot5 (by assumption) | exact rot6 (by assumption) | exact rot7 (by assumption) | exact rot8 (by assumption))) (by k_asm) (by first | exact rfl | assumption) (by ktr_rel) (by first | assumption | lia) (by assumption) (by cb_room) (by cb_room) (by cb_room) (by cb_room) (by cb_room) (by cb_room) (by ktr_room) (by ktr_room) ?_); intro v9 t9 t8 n9 h9 tk9 b8 b9 F9 N9; (try dsimp only); (try k_fold)))) | (k_unfold; (try dsimp only)) | (k_end; wrow_close) | walk1 | (dsimp only; walk1))))
  refine ListComp_W (F₀ := F) (by with_unfolding_all rfl) (by decide) (by rfl) (by decide) (by rfl) (by intro _; with_unfolding_all rfl) ?_
  repeat' (first | ((fail_if_success (with_reducible show CompSrcW _ _ _ _ _ _ _ _ _ _ _ _ _ _)); (first | ((k_here; (with_reducible show wpAny _ _ (call (Value.builtin "len") [Value.ref _]) _ _ _); k_dflt (refine len_memL (by k_asm) (by repeat (first | assumption | exact .head _ | refine .tail _ ?_)) (by first | assumption | (simp only [List.size_toArray]; lia)) ?_))) | ((k_here; (with_reducible show wpAny _ _ (eval (Expr.Name _ _) (envX _ _ _ _ _ _)) _ _ _); k_dflt (refine nameX_L (by k_asm) (by with_reducible assumption) ?_))) | ((with_reducible show wpAny _ _ (PySem.call (Value.type "range") _ _) _ _ _); (k_here; k_dflt ((rename Fr _ _ _ _ => fR'); (rename News _ _ _ _ => nR'); (with_unfolding_all refine range1_rows fR' nR' ?_); intro _ _ _ _ _ _ _ _ _))) | ((k_here; k_dflt ((with_reducible show wpAny _ _ (PySem.call (Value.ref 271) _ _) _ _ _); (refine' draw_c (by k_asm) (by k_asm) (by k_asm) (by (first | k_asm | exact rot1 (by assumption) | exact rot2 (by assumption) | exact rot3 (by assumption) | exact rot4 (by assumption) | exact rot5 (by assumption) | exact rot6 (by assumption) | exact rot7 (by assumption) | exact rot8 (by assumption))) (by k_asm) (by first | exact rfl | assumption) (by ktr_rel) (by first | assumption | lia) (by assumption) (by cb_room) (by cb_room) (by cb_room) (by cb_room) (by cb_room) (by cb_room) (by ktr_room) (by ktr_room) ?_); intro v9 t9 t8 n9 h9 tk9 b8 b9 F9 N9; (try dsimp only); (try k_fold)))) | (k_unfold; (try dsimp only)) | (k_end; wrow_close) | walk1 | (dsimp only; walk1))))
  (rename IsRange _ _ _ _ _ _ _ _ => hIR)
  (rename News _ _ _ _ => nR)
  (rename Fr _ _ _ _ => fR)
  refine CompSrcW.mk (iter_range (n := 40) hIR ?sm ?sz rfl fR nR) fR nR ?hsz trivial fun g => compRest_inv (J3 L tp c vs n' o1 o2 o3 o4 R i) ?j0 ?step ?fin
  case sz => decide
  case sm => decide
  case hsz => decide
  case j0 => exact ⟨_, _, _, [], rfl, .nil, rfl, (fun _ h => nomatch h), Int.le_refl _, by lia⟩
  case step =>
    clear nR fR
    intro j ys news v I oI C oC D m₂ h tk E' hj hJ hP hC hx F₁ N₁ off₁ ne
    obtain ⟨i', t2, n2, os, rfl, hio, hol, hob, hi1, hi2⟩ := hJ
    obtain ⟨tt, rfl⟩ := hP
    have oI : tp ≠ I := off₁.1.1
    have oC : tp ≠ C := off₁.1.2.1
    have oD : tp ≠ D := off₁.1.2.2
    repeat' (first | ((fail_if_success (with_reducible show wpAny _ _ (PySem.call (Value.ref 271) _ _) _ _ _)); (first | ((k_here; (with_reducible show wpAny _ _ (call (Value.builtin "len") [Value.ref _]) _ _ _); k_dflt (refine len_memL (by k_asm) (by repeat (first | assumption | exact .head _ | refine .tail _ ?_)) (by first | assumption | (simp only [List.size_toArray]; lia)) ?_))) | ((k_here; (with_reducible show wpAny _ _ (eval (Expr.Name _ _) (envX _ _ _ _ _ _)) _ _ _); k_dflt (refine nameX_L (by k_asm) (by with_reducible assumption) ?_))) | ((with_reducible show wpAny _ _ (PySem.call (Value.type "range") _ _) _ _ _); (k_here; k_dflt ((rename Fr _ _ _ _ => fR'); (rename News _ _ _ _ => nR'); (with_unfolding_all refine range1_rows fR' nR' ?_); intro _ _ _ _ _ _ _ _ _))) | ((k_here; k_dflt ((with_reducible show wpAny _ _ (PySem.call (Value.ref 271) _ _) _ _ _); (refine' draw_c (by k_asm) (by k_asm) (by k_asm) (by (first | k_asm | exact rot1 (by assumption) | exact rot2 (by assumption) | exact rot3 (by assumption) | exact rot4 (by assumption) | exact rot5 (by assumption) | exact rot6 (by assumption) | exact rot7 (by assumption) | exact rot8 (by assumption))) (by k_asm) (by first | exact rfl | assumption) (by ktr_rel) (by first | assumption | lia) (by assumption) (by cb_room) (by cb_room) (by cb_room) (by cb_room) (by cb_room) (by cb_room) (by ktr_room) (by ktr_room) ?_); intro v9 t9 t8 n9 h9 tk9 b8 b9 F9 N9; (try dsimp only); (try k_fold)))) | (k_unfold; (try dsimp only)) | (k_end; wrow_close) | walk1 | (dsimp only; walk1))))
    refine' draw_c B F₁ X ?kN T lawSc_fn ?s0 hct hi hn1 hn2 ?s1 ?s2 ?s3 ?s4 ?kd ?ku ?_
    case kN => exact rot3 N₁
    case s0 => exact (own_cons ⟨Ne.symm oI, trivial⟩ (own_cons ⟨Ne.symm oC, trivial⟩ (own_cons ⟨Ne.symm oD, trivial⟩ (own_cons ⟨by lia, trivial⟩ (own_cons ⟨by lia, trivial⟩ (own_cons ⟨by lia, trivial⟩ (own_cons ⟨by lia, trivial⟩ off.t)))))))
    case s1 => lia
    case s2 => lia
    case s3 => lia
    case s4 => lia
    case kd => ktr_room
    case ku => ktr_room
    intro v t t3 n3 h' tk' hv0 hv1 F₂ N₂
    repeat' (first | ((fail_if_success (with_reducible show PyProof.Rows.LCg.CompEnd _ _ _ _ _ _ _ _ _ _ _ _ _ _)); (first | ((k_here; (with_reducible show wpAny _ _ (call (Value.builtin "len") [Value.ref _]) _ _ _); k_dflt (refine len_memL (by k_asm) (by repeat (first | assumption | exact .head _ | refine .tail _ ?_)) (by first | assumption | (simp only [List.size_toArray]; lia)) ?_))) | ((k_here; (with_reducible show wpAny _ _ (eval (Expr.Name _ _) (envX _ _ _ _ _ _)) _ _ _); k_dflt (refine nameX_L (by k_asm) (by with_reducible assumption) ?_))) | ((with_reducible show wpAny _ _ (PySem.call (Value.type "range") _ _) _ _ _); (k_here; k_dflt ((rename Fr _ _ _ _ => fR'); (rename News _ _ _ _ => nR'); (with_unfolding_all refine range1_rows fR' nR' ?_); intro _ _ _ _ _ _ _ _ _))) | ((k_here; k_dflt ((with_reducible show wpAny _ _ (PySem.call (Value.ref 271) _ _) _ _ _); (refine' draw_c (by k_asm) (by k_asm) (by k_asm) (by (first | k_asm | exact rot1 (by assumption) | exact rot2 (by assumption) | exact rot3 (by assumption) | exact rot4 (by assumption) | exact rot5 (by assumption) | exact rot6 (by assumption) | exact rot7 (by assumption) | exact rot8 (by assumption))) (by k_asm) (by first | exact rfl | assumption) (by ktr_rel) (by first | assumption | lia) (by assumption) (by cb_room) (by cb_room) (by cb_room) (by cb_room) (by cb_room) (by cb_room) (by ktr_room) (by ktr_room) ?_); intro v9 t9 t8 n9 h9 tk9 b8 b9 F9 N9; (try dsimp only); (try k_fold)))) | (k_unfold; (try dsimp only)) | (k_unmd; k_unfold; (try dsimp only)) | (k_end; wrow_close) | walk1 | (dsimp only; walk1))))
    refine PyProof.Rows.LCg.CompEnd.intro (all := _) F₂ N₂ _ in3_back (off3_same off₁ rfl) trivial ⟨i' + 1, t3, n3, os ++ [_], rfl, ints_snoc hio _ _, by rw [List.length_append, hol]; rfl, ?ok, by lia, by lia⟩
    case ok =>
      intro g hg
      rcases List.mem_append.mp hg with hg | hg
      · exact hob g hg
      · rw [List.mem_singleton.mp hg]; exact ⟨Int.fmod_nonneg_of_pos _ (by decide), Int.fmod_lt_of_pos _ (by decide)⟩
  case fin =>
    intro ys news' hJ
    obtain ⟨i', t2, n2, os, rfl, hio, hol, hob, hi1, hi2⟩ := hJ
    intro D h' tk' F₂ N₂ oD
    clear nR fR
    repeat' (first | ((fail_if_success (with_reducible show wpAny _ _ (PySem.call (Value.type "bytes") _ _) _ _ _)); (first | ((k_here; (with_reducible show wpAny _ _ (call (Value.builtin "len") [Value.ref _]) _ _ _); k_dflt (refine len_memL (by k_asm) (by repeat (first | assumption | exact .head _ | refine .tail _ ?_)) (by first | assumption | (simp only [List.size_toArray]; lia)) ?_))) | ((k_here; (with_reducible show wpAny _ _ (eval (Expr.Name _ _) (envX _ _ _ _ _ _)) _ _ _); k_dflt (refine nameX_L (by k_asm) (by with_reducible assumption) ?_))) | ((with_reducible show wpAny _ _ (PySem.call (Value.type "range") _ _) _ _ _); (k_here; k_dflt ((rename Fr _ _ _ _ => fR'); (rename News _ _ _ _ => nR'); (with_unfolding_all refine range1_rows fR' nR' ?_); intro _ _ _ _ _ _ _ _ _))) | ((k_here; k_dflt ((with_reducible show wpAny _ _ (PySem.call (Value.ref 271) _ _) _ _ _); (refine' draw_c (by k_asm) (by k_asm) (by k_asm) (by (first | k_asm | exact rot1 (by assumption) | exact rot2 (by assumption) | exact rot3 (by assumption) | exact rot4 (by assumption) | exact rot5 (by assumption) | exact rot6 (by assumption) | exact rot7 (by assumption) | exact rot8 (by assumption))) (by k_asm) (by first | exact rfl | assumption) (by ktr_rel) (by first | assumption | lia) (by assumption) (by cb_room) (by cb_room) (by cb_room) (by cb_room) (by cb_room) (by cb_room) (by ktr_room) (by ktr_room) ?_); intro v9 t9 t8 n9 h9 tk9 b8 b9 F9 N9; (try dsimp only); (try k_fold)))) | (k_unfold; (try dsimp only)) | (k_end; wrow_close) | walk1 | (dsimp only; walk1))))
    refine KBa.make_K F₂ N₂ rfl ⟨_, N₂.get (.head _), rfl, _, rfl⟩ hio hob (by lia) ?_
    intro h2 tb k2 F₃ N₃ _
    refine storeX_C F₃ (news_drop N₃) rfl (.tail ?a1 (.tail ?a2 (.tail ?a3 (.tail ?a4 (.head ?a5))))) d3 ?_ lawSc_fn (by with_unfolding_all rfl)
    case a1 => exact Nat.ne_of_gt (by lia)
    case a2 => exact Nat.ne_of_gt (by lia)
    case a3 => exact Nat.ne_of_lt (by lia)
    case a4 => exact Nat.ne_of_lt (by lia)
    case a5 =>
      intro p hp
      rcases List.mem_cons.mp hp with rfl | hp
      · exact Nat.ne_of_gt (Nat.lt_succ_self _)
      · exact off_cell off (by simp) p hp
    intro h3 o3' F₄ N₄ d3'
    exact hret _ tb os i' t2 n2 o3' _ _ (KBa.ints_make hob) hol (by lia) (by lia) d3' F₄ N₄
end
end
section
theorem part28 : True := by
  w_top off
  trivial
section
variable {w : World} {mean : ExcName → Option Value} {mg mb : PySem.Str → Option Value} {dp un : Nat} {gd : Option (List Code)} {a : Addr} {ccd : Value} {outer : List Env} {A₀ : Around} {base h₀ : Heap} {L : Addr} {m : PySem.Str → Option Value} {s : Shared} {Q : PySem.Flow → Shared → Prop} {E : Value → Shared → Prop}
set_option maxRecDepth 100000 in
set_option maxHeartbeats 8000000 in
theorem st4 {ol : Addr} {vs : Array Value} {n : Nat} {news : List (Addr × Obj)}
  (B : Below A₀ base outer h₀) (F : Fr h₀ L s.heap m) (X : (Mine.hd.heap_39 w.params).In h₀) (N : News h₀ L s.heap (news)) (T : Top Mine.hd.view_39 (looseW Mine.hd.view_39 [Str.ofString "ShapeError", Str.ofString "VERSIONS"]) mean mg mb h₀)
  (hd : dp ≤ 310) (hu : un ≤ 1200) (ho : m (Str.ofString "order") = some (.ref ol)) (hm : (ol, W.listOf vs n) ∈ news) (hz : vs.size ≤ 4)
  (hret : ∀ t h' tk', Fr h₀ L h' (fun y => if y = Str.ofString "at" then some (.int (12 + 4 * (vs.size : Int)) t) else m y) → News h₀ L h' news → Q .next { s with heap := h', toks := tk' }) :
  wpAny (model PySem.Challenge.rw_pb0178_01.row.prog w) (ktrTop dp un gd lawN lawSc L a ccd (lawCl L) outer) (exec (lawS 4) (envX lawN lawSc L a ccd (lawCl L))) Q E s := by
  with_unfolding_all (show wpAny _ _ (exec (Stmt.Assign _ _ _) _) _ _ _)
  (repeat' (first | ((k_here; (with_reducible show wpAny _ _ (call (Value.builtin "len") [Value.ref _]) _ _ _); k_dflt (refine len_memL (by k_asm) (by repeat (first | assumption | exact .head _ | refine .tail _ ?_)) (by first | lia | (simp only [List.size_toArray]; lia)) ?_))) | ((k_here; (with_reducible show wpAny _ _ (eval (Expr.Name _ _) (envX _ _ _ _ _ _)) _ _ _); k_dflt (refine nameX_L (by k_asm) (by with_reducible assumption) ?_))) | ((with_reducible show wpAny _ _ (PySem.call (Value.type "range") _ _) _ _ _); (k_here; k_dflt ((rename Fr _ _ _ _ => fR'); (rename News _ _ _ _ => nR'); (with_unfolding_all refine range1_rows fR' nR' ?_); intro _ _ _ _ _ _ _ _ _))) | ((k_here; k_dflt ((with_reducible show wpAny _ _ (PySem.call (Value.ref 271) _ _) _ _ _); (refine' draw_c (by k_asm) (by k_asm) (by k_asm) (by (first | k_asm | exact rot1 (by assumption) | exact rot2 (by assumption) | exact rot3 (by assumption) | exact rot4 (by assumption) | exact rot5 (by assumption) | exact rot6 (by assumption) | exact rot7 (by assumption) | exact rot8 (by assumption))) (by k_asm) (by first | exact rfl | assumption) (by ktr_rel) (by first | assumption | lia) (by assumption) (by cb_room) (by cb_room) (by cb_room) (by cb_room) (by cb_room) (by cb_room) (by ktr_room) (by ktr_room) ?_); intro v9 t9 t8 n9 h9 tk9 b8 b9 F9 N9; (try dsimp only); (try k_fold)))) | (k_unfold; (try dsimp only)) | (k_end; wrow_close) | walk1 | (dsimp only; walk1) | (leave1; walk_say "STEP leave1"; try dsimp only) | fail "no step"))
  all_goals exact hret _ _ _ (by assumption) (by assumption)
set_option maxRecDepth 100000 in
set_option maxHeartbeats 8000000 in
theorem st5 {tp c : Addr} {vs : List Value} {ns : List Int} {i : Int} {ti : Tok} {n n' : Nat} {o1 o2 o3 o4 : Obj} {v2 v3 v4 : Option Value} {R : List (Addr × Obj)}
  (B : Below A₀ base outer h₀) (F : Fr h₀ L s.heap m) (X : (Mine.hd.heap_39 w.params).In h₀) (N : News h₀ L s.heap ((tp, listOf #[.ref c, .int i ti] n) :: (c, listOf vs.toArray n') :: (L + 1, o1) :: (L + 1 + 1, o2) :: (L + 1 + 1 + 1, o3) :: (L + 1 + 1 + 1 + 1, o4) :: R)) (T : Top Mine.hd.view_39 (looseW Mine.hd.view_39 [Str.ofString "ShapeError", Str.ofString "VERSIONS"]) mean mg mb h₀)
  (hd : dp ≤ 310) (hu : un ≤ 1200) (hi : IntsAre vs ns) (hn1 : 1 ≤ ns.length) (hn2 : ns.length ≤ 60) (d1 : o1.data = .cell (some (.ref tp))) (htp : @LT.lt Nat _ (L + 1 + 1 + 1 + 1) tp) (htc : @LT.lt Nat _ (L + 1 + 1 + 1 + 1) c) (hct : @Ne Nat c tp) (off : LawOff L tp c R) (h0 : 0 ≤ i) (h1 : i < 200)
  (hret : ∀ b t2 n2 h' tk', Fr h₀ L h' (fun y => if y = Str.ofString "is_ahead" then some (.bool b) else m y) → News h₀ L h' ((tp, listOf #[.ref c, .int (i + 1) t2] n2) :: (c, listOf vs.toArray n') :: (L + 1, o1) :: (L + 1 + 1, o2) :: (L + 1 + 1 + 1, o3) :: (L + 1 + 1 + 1 + 1, o4) :: R) → Q .next { s with heap := h', toks := tk' }) :
  wpAny (model PySem.Challenge.rw_pb0178_01.row.prog w) (ktrTop dp un gd lawN lawSc L a ccd (lawCl L) outer) (exec (lawS 5) (envX lawN lawSc L a ccd (lawCl L))) Q E s := by
  have offT := off.t
  with_unfolding_all (show wpAny _ _ (exec (Stmt.Assign _ _ _) _) _ _ _)
  (repeat' (first | ((k_here; (with_reducible show wpAny _ _ (call (Value.builtin "len") [Value.ref _]) _ _ _); k_dflt (refine len_memL (by k_asm) (by repeat (first | assumption | exact .head _ | refine .tail _ ?_)) (by first | lia | (simp only [List.size_toArray]; lia)) ?_))) | ((k_here; (with_reducible show wpAny _ _ (eval (Expr.Name _ _) (envX _ _ _ _ _ _)) _ _ _); k_dflt (refine nameX_L (by k_asm) (by with_reducible assumption) ?_))) | ((with_reducible show wpAny _ _ (PySem.call (Value.type "range") _ _) _ _ _); (k_here; k_dflt ((rename Fr _ _ _ _ => fR'); (rename News _ _ _ _ => nR'); (with_unfolding_all refine range1_rows fR' nR' ?_); intro _ _ _ _ _ _ _ _ _))) | ((k_here; k_dflt ((with_reducible show wpAny _ _ (PySem.call (Value.ref 271) _ _) _ _ _); (refine' draw_c (by k_asm) (by k_asm) (by k_asm) (by (first | k_asm | exact rot1 (by assumption) | exact rot2 (by assumption) | exact rot3 (by assumption) | exact rot4 (by assumption) | exact rot5 (by assumption) | exact rot6 (by assumption) | exact rot7 (by assumption) | exact rot8 (by assumption))) (by k_asm) (by first | exact rfl | assumption) (by ktr_rel) (by first | assumption | lia) (by assumption) (by cb_room) (by cb_room) (by cb_room) (by cb_room) (by cb_room) (by cb_room) (by ktr_room) (by ktr_room) ?_); intro v9 t9 t8 n9 h9 tk9 b8 b9 F9 N9; (try dsimp only); (try k_fold)))) | (k_unfold; (try dsimp only)) | (k_end; wrow_close) | walk1 | (dsimp only; walk1) | (leave1; walk_say "STEP leave1"; try dsimp only) | fail "no step"))
  all_goals exact hret _ _ _ _ _ (by assumption) (by assumption)
set_option maxRecDepth 100000 in
set_option maxHeartbeats 8000000 in
theorem st6 {o4 : Obj} {v4 : Option Value} {at0 : Int} {tat : Tok} {b : Bool} {p : Array UInt8} {tb : Tok} {o3 : Obj} {news R : List (Addr × Obj)}
  (B : Below A₀ base outer h₀) (F : Fr h₀ L s.heap m) (X : (Mine.hd.heap_39 w.params).In h₀) (N : News h₀ L s.heap ((L + 1 + 1 + 1, o3) :: (L + 1 + 1 + 1 + 1, o4) :: R)) (T : Top Mine.hd.view_39 (looseW Mine.hd.view_39 [Str.ofString "ShapeError", Str.ofString "VERSIONS"]) mean mg mb h₀)
  (hd : dp ≤ 310) (hu : un ≤ 1200) (d3 : o3.data = .cell (some (.bytes p tb))) (d4 : o4.data = .cell v4) (off4 : ∀ q ∈ R, q.1 ≠ L + 1 + 1 + 1 + 1) (ha : m (Str.ofString "at") = some (.int at0 tat)) (hb : m (Str.ofString "is_ahead") = some (.bool b))
  (hret : ∀ pd od o4' to h' tk', o4'.data = .cell (some (.ref pd)) → Obj.IsDictOf (intKind PySem.Challenge.rw_pb0178_01.row.prog w) od [] → (pd == sysModules) = false → L + 1 + 1 + 1 < pd → L + 1 + 1 + 1 + 1 < pd → (∀ q ∈ R, q.1 < pd) → Fr h₀ L h' (fun y => if y = Str.ofString "octets" then some (.bytes (if b then p else #[]) to) else if y = Str.ofString "begun" then some (.int at0 tat) else m y) → News h₀ L h' ((pd, od) :: (L + 1 + 1 + 1, o3) :: (L + 1 + 1 + 1 + 1, o4') :: R) → Q .next { s with heap := h', toks := tk' }) :
  wpAny (model PySem.Challenge.rw_pb0178_01.row.prog w) (ktrTop dp un gd lawN lawSc L a ccd (lawCl L) outer) (exec (lawS 6) (envX lawN lawSc L a ccd (lawCl L))) Q E s := by
  with_unfolding_all (show wpAny _ _ (exec (Stmt.Assign _ _ _) _) _ _ _)
  cases b
  all_goals (repeat' (first | ((k_here; (with_reducible show wpAny _ _ (call (Value.builtin "len") [Value.ref _]) _ _ _); k_dflt (refine len_memL (by k_asm) (by repeat (first | assumption | exact .head _ | refine .tail _ ?_)) (by first | lia | (simp only [List.size_toArray]; lia)) ?_))) | ((k_here; (with_reducible show wpAny _ _ (eval (Expr.Name _ _) (envX _ _ _ _ _ _)) _ _ _); k_dflt (refine nameX_L (by k_asm) (by with_reducible assumption) ?_))) | ((with_reducible show wpAny _ _ (PySem.call (Value.type "range") _ _) _ _ _); (k_here; k_dflt ((rename Fr _ _ _ _ => fR'); (rename News _ _ _ _ => nR'); (with_unfolding_all refine range1_rows fR' nR' ?_); intro _ _ _ _ _ _ _ _ _))) | ((k_here; k_dflt ((with_reducible show wpAny _ _ (PySem.call (Value.ref 271) _ _) _ _ _); (refine' draw_c (by k_asm) (by k_asm) (by k_asm) (by (first | k_asm | exact rot1 (by assumption) | exact rot2 (by assumption) | exact rot3 (by assumption) | exact rot4 (by assumption) | exact rot5 (by assumption) | exact rot6 (by assumption) | exact rot7 (by assumption) | exact rot8 (by assumption))) (by k_asm) (by first | exact rfl | assumption) (by ktr_rel) (by first | assumption | lia) (by assumption) (by cb_room) (by cb_room) (by cb_room) (by cb_room) (by cb_room) (by cb_room) (by ktr_room) (by ktr_room) ?_); intro v9 t9 t8 n9 h9 tk9 b8 b9 F9 N9; (try dsimp only); (try k_fold)))) | (k_unfold; (try dsimp only)) | (k_end; wrow_close) | walk1 | (dsimp only; walk1) | (leave1; walk_say "STEP leave1"; try dsimp only) | fail "no step"))
  all_goals (
    (rename Fr _ _ _ _ => F9)
    (rename News _ _ _ _ => N9)
    (rename Obj.IsDictOf (intKind _ _) _ _ => hd9)
    (rename (_ == sysModules) = false => sm9)
    (rename _ ∧ _ ∧ _ ∧ AllLt _ R => l9)
    (rename _ ∧ _ ∧ AllLt _ R => l8)
    refine storeX_C F9 N9 rfl (.tail ?a (.tail ?b (.tail ?c (.head off4)))) d4 ?_ lawSc_fn (by with_unfolding_all rfl)
    case a => exact Nat.ne_of_gt (by lia)
    case b => exact Nat.ne_of_gt (by lia)
    case c => exact Nat.ne_of_lt (Nat.lt_succ_self _)
    intro h2 o4' F₃ N₃ d4'
    (repeat' (first | ((k_here; (with_reducible show wpAny _ _ (call (Value.builtin "len") [Value.ref _]) _ _ _); k_dflt (refine len_memL (by k_asm) (by repeat (first | assumption | exact .head _ | refine .tail _ ?_)) (by first | lia | (simp only [List.size_toArray]; lia)) ?_))) | ((k_here; (with_reducible show wpAny _ _ (eval (Expr.Name _ _) (envX _ _ _ _ _ _)) _ _ _); k_dflt (refine nameX_L (by k_asm) (by with_reducible assumption) ?_))) | ((with_reducible show wpAny _ _ (PySem.call (Value.type "range") _ _) _ _ _); (k_here; k_dflt ((rename Fr _ _ _ _ => fR'); (rename News _ _ _ _ => nR'); (with_unfolding_all refine range1_rows fR' nR' ?_); intro _ _ _ _ _ _ _ _ _))) | ((k_here; k_dflt ((with_reducible show wpAny _ _ (PySem.call (Value.ref 271) _ _) _ _ _); (refine' draw_c (by k_asm) (by k_asm) (by k_asm) (by (first | k_asm | exact rot1 (by assumption) | exact rot2 (by assumption) | exact rot3 (by assumption) | exact rot4 (by assumption) | exact rot5 (by assumption) | exact rot6 (by assumption) | exact rot7 (by assumption) | exact rot8 (by assumption))) (by k_asm) (by first | exact rfl | assumption) (by ktr_rel) (by first | assumption | lia) (by assumption) (by cb_room) (by cb_room) (by cb_room) (by cb_room) (by cb_room) (by cb_room) (by ktr_room) (by ktr_room) ?_); intro v9 t9 t8 n9 h9 tk9 b8 b9 F9 N9; (try dsimp only); (try k_fold)))) | (k_unfold; (try dsimp only)) | (k_end; wrow_close) | walk1 | (dsimp only; walk1) | (leave1; walk_say "STEP leave1"; try dsimp only) | fail "no step"))
    exact hret _ _ o4' _ _ _ d4' hd9 sm9 l8.1 l8.2.1 (ktn_ltOf l8.2.2) F₃ (news_drop N₃))
end
end
section
theorem part29 : True := by
  w_top off
  trivial
theorem drop3 {h₀ h : Heap} {L : Addr} {t c d : Addr × Obj} {R : List (Addr × Obj)} (N : News h₀ L h (t :: c :: d :: R)) : News h₀ L h (t :: c :: R) := fun q hq => N q (by
  refine List.subset_def.mp ?_ hq
  repeat (first | refine List.cons_subset.mpr ⟨by repeat (first | exact .head _ | refine .tail _ ?_), ?_⟩ | refine List.append_subset.mpr ⟨?_, ?_⟩)
  all_goals first | exact List.nil_subset _ | exact fun _ h => by repeat (first | exact h | exact List.mem_append_left _ h | refine .tail _ ?_ | refine List.mem_append_right _ ?_))
section
variable {w : World} {mean : ExcName → Option Value} {mg mb : PySem.Str → Option Value} {dp un : Nat} {gd : Option (List Code)} {a : Addr} {ccd : Value} {outer : List Env} {A₀ : Around} {base h₀ : Heap} {L : Addr} {m : PySem.Str → Option Value} {s : Shared} {Q : PySem.Flow → Shared → Prop} {E : Value → Shared → Prop}
set_option maxRecDepth 100000 in
set_option maxHeartbeats 8000000 in
theorem st10 {o3 : Obj} {b : Bool} {o p : Array UInt8} {os ps : List Int} {to tp : Tok} {news : List (Addr × Obj)}
  (B : Below A₀ base outer h₀) (F : Fr h₀ L s.heap m) (X : (Mine.hd.heap_39 w.params).In h₀) (N : News h₀ L s.heap (news)) (T : Top Mine.hd.view_39 (looseW Mine.hd.view_39 [Str.ofString "ShapeError", Str.ofString "VERSIONS"]) mean mg mb h₀)
  (hd : dp ≤ 310) (hu : un ≤ 1200) (m3 : (L + 1 + 1 + 1, o3) ∈ news) (d3 : o3.data = .cell (some (.bytes p tp))) (ha : m (Str.ofString "is_ahead") = some (.bool b)) (ho : m (Str.ofString "octets") = some (.bytes o to)) (hoi : KBw.bInts o = os) (hpi : KBw.bInts p = ps) (hol : os.length ≤ 1000) (hpl : ps.length ≤ 100)
  (hret : ∀ o' to' h' tk', KBw.bInts o' = (if b then os else os ++ ps) → Fr h₀ L h' (fun y => if y = Str.ofString "octets" then some (.bytes o' to') else m y) → News h₀ L h' news → Q .next { s with heap := h', toks := tk' }) :
  wpAny (model PySem.Challenge.rw_pb0178_01.row.prog w) (ktrTop dp un gd lawN lawSc L a ccd (lawCl L) outer) (exec (lawS 10) (envX lawN lawSc L a ccd (lawCl L))) Q E s := by
  with_unfolding_all (show wpAny _ _ (exec (Stmt.Assign _ _ _) _) _ _ _)
  cases b
  · (repeat' (first | ((k_here; k_dflt ((with_reducible show wpAny _ _ (PySem.call (Value.ref 276) _ _) _ _ _); (refine' oc4_c (by k_asm) (by k_asm) (by k_asm) (by k_asm) (by k_asm) (by first | exact rfl | assumption) (by cb_room) (by cb_room) (by ktr_room) (by ktr_room) ?_); intro d9 t9 h9 tk9 e9 F9 N9; (try dsimp only); (try k_fold)))) | ((k_here; (with_reducible show wpAny _ _ (call (Value.builtin "len") [Value.ref _]) _ _ _); k_dflt (refine len_memL (by k_asm) (by repeat (first | assumption | exact .head _ | refine .tail _ ?_)) (by first | lia | (simp only [List.size_toArray]; lia)) ?_))) | ((k_here; (with_reducible show wpAny _ _ (eval (Expr.Name _ _) (envX _ _ _ _ _ _)) _ _ _); k_dflt (refine nameX_L (by k_asm) (by with_reducible assumption) ?_))) | ((k_here; k_dflt ((with_reducible show wpAny _ _ (PySem.call (Value.ref 271) _ _) _ _ _); (refine' draw_c (by k_asm) (by k_asm) (by k_asm) (by (first | k_asm | exact rot1 (by assumption) | exact rot2 (by assumption) | exact rot3 (by assumption) | exact rot4 (by assumption) | exact rot5 (by assumption) | exact rot6 (by assumption) | exact rot7 (by assumption) | exact rot8 (by assumption))) (by k_asm) (by first | exact rfl | assumption) (by ktr_rel) (by first | assumption | lia) (by assumption) (by cb_room) (by cb_room) (by cb_room) (by cb_room) (by first | cb_room | (simp only [List.size_toArray]; lia)) (by first | cb_room | (simp only [List.size_toArray]; lia)) (by ktr_room) (by ktr_room) ?_); intro v9 t9 t8 n9 h9 tk9 b8 b9 F9 N9; (try dsimp only); (try k_fold)))) | (k_unfold; (try dsimp only)) | (k_end; wrow_close) | walk1 | (dsimp only; walk1) | (leave1; walk_say "STEP leave1"; try dsimp only) | fail "no step"))
    exact hret _ _ _ _ (by assumption) (by assumption) (by assumption)
  · (repeat' (first | ((k_here; k_dflt ((with_reducible show wpAny _ _ (PySem.call (Value.ref 276) _ _) _ _ _); (refine' oc4_c (by k_asm) (by k_asm) (by k_asm) (by k_asm) (by k_asm) (by first | exact rfl | assumption) (by cb_room) (by cb_room) (by ktr_room) (by ktr_room) ?_); intro d9 t9 h9 tk9 e9 F9 N9; (try dsimp only); (try k_fold)))) | ((k_here; (with_reducible show wpAny _ _ (call (Value.builtin "len") [Value.ref _]) _ _ _); k_dflt (refine len_memL (by k_asm) (by repeat (first | assumption | exact .head _ | refine .tail _ ?_)) (by first | lia | (simp only [List.size_toArray]; lia)) ?_))) | ((k_here; (with_reducible show wpAny _ _ (eval (Expr.Name _ _) (envX _ _ _ _ _ _)) _ _ _); k_dflt (refine nameX_L (by k_asm) (by with_reducible assumption) ?_))) | ((k_here; k_dflt ((with_reducible show wpAny _ _ (PySem.call (Value.ref 271) _ _) _ _ _); (refine' draw_c (by k_asm) (by k_asm) (by k_asm) (by (first | k_asm | exact rot1 (by assumption) | exact rot2 (by assumption) | exact rot3 (by assumption) | exact rot4 (by assumption) | exact rot5 (by assumption) | exact rot6 (by assumption) | exact rot7 (by assumption) | exact rot8 (by assumption))) (by k_asm) (by first | exact rfl | assumption) (by ktr_rel) (by first | assumption | lia) (by assumption) (by cb_room) (by cb_room) (by cb_room) (by cb_room) (by first | cb_room | (simp only [List.size_toArray]; lia)) (by first | cb_room | (simp only [List.size_toArray]; lia)) (by ktr_room) (by ktr_room) ?_); intro v9 t9 t8 n9 h9 tk9 b8 b9 F9 N9; (try dsimp only); (try k_fold)))) | (k_unfold; (try dsimp only)) | (k_end; wrow_close) | walk1 | (dsimp only; walk1) | (leave1; walk_say "STEP leave1"; try dsimp only) | fail "no step"))
    exact hret _ _ _ _ hoi (by assumption) (by assumption)
set_option maxRecDepth 100000 in
set_option maxHeartbeats 8000000 in
theorem st11 {tp c : Addr} {vs : List Value} {ns : List Int} {i : Int} {ti : Tok} {n n' : Nat} {o1 o2 o3 o4 : Obj} {v2 v3 v4 : Option Value} {R : List (Addr × Obj)} {ol : Addr} {ors : Array Value} {on : Nat}
  (B : Below A₀ base outer h₀) (F : Fr h₀ L s.heap m) (X : (Mine.hd.heap_39 w.params).In h₀) (N : News h₀ L s.heap ((tp, listOf #[.ref c, .int i ti] n) :: (c, listOf vs.toArray n') :: (L + 1, o1) :: (L + 1 + 1, o2) :: (L + 1 + 1 + 1, o3) :: (L + 1 + 1 + 1 + 1, o4) :: R)) (T : Top Mine.hd.view_39 (looseW Mine.hd.view_39 [Str.ofString "ShapeError", Str.ofString "VERSIONS"]) mean mg mb h₀)
  (hd : dp ≤ 310) (hu : un ≤ 1200) (hi : IntsAre vs ns) (hn1 : 1 ≤ ns.length) (hn2 : ns.length ≤ 60) (d1 : o1.data = .cell (some (.ref tp))) (htp : @LT.lt Nat _ (L + 1 + 1 + 1 + 1) tp) (htc : @LT.lt Nat _ (L + 1 + 1 + 1 + 1) c) (hct : @Ne Nat c tp) (off : LawOff L tp c R) (h0 : 0 ≤ i) (h1 : i < 200) (ho : m (Str.ofString "order") = some (.ref ol)) (mo : (ol, W.listOf ors on) ∈ R) (hol : ors.size ≤ 4)
  (hret : ∀ (ve : Int) hb th t2 n2 h' tk', (ve = 65536 ∨ ve = 131072) → KBw.bInts hb = [116, 116, 99, 102] ++ be4 ve ++ be4 (ors.size : Int) → Fr h₀ L h' (fun y => if y = Str.ofString "head" then some (.bytes hb th) else m y) → News h₀ L h' ((tp, listOf #[.ref c, .int (i + 1) t2] n2) :: (c, listOf vs.toArray n') :: (L + 1, o1) :: (L + 1 + 1, o2) :: (L + 1 + 1 + 1, o3) :: (L + 1 + 1 + 1 + 1, o4) :: R) → Q .next { s with heap := h', toks := tk' }) :
  wpAny (model PySem.Challenge.rw_pb0178_01.row.prog w) (ktrTop dp un gd lawN lawSc L a ccd (lawCl L) outer) (exec (lawS 11) (envX lawN lawSc L a ccd (lawCl L))) Q E s := by
  have offT := off.t
  with_unfolding_all (show wpAny _ _ (exec (Stmt.Assign _ _ _) _) _ _ _)
  repeat' (first | ((fail_if_success (with_reducible show wpAny _ _ (PySem.call (Value.ref 276) _ _) _ _ _)); (first | ((k_here; k_dflt ((with_reducible show wpAny _ _ (PySem.call (Value.ref 276) _ _) _ _ _); (refine' oc4_c (by k_asm) (by k_asm) (by k_asm) (by k_asm) (by k_asm) (by first | exact rfl | assumption) (by cb_room) (by cb_room) (by ktr_room) (by ktr_room) ?_); intro d9 t9 h9 tk9 e9 F9 N9; (try dsimp only); (try k_fold)))) | ((k_here; (with_reducible show wpAny _ _ (call (Value.builtin "len") [Value.ref _]) _ _ _); k_dflt (refine len_memL (by k_asm) (by repeat (first | assumption | exact .head _ | refine .tail _ ?_)) (by first | lia | (simp only [List.size_toArray]; lia)) ?_))) | ((k_here; (with_reducible show wpAny _ _ (eval (Expr.Name _ _) (envX _ _ _ _ _ _)) _ _ _); k_dflt (refine nameX_L (by k_asm) (by with_reducible assumption) ?_))) | ((k_here; k_dflt ((with_reducible show wpAny _ _ (PySem.call (Value.ref 271) _ _) _ _ _); (refine' draw_c (by k_asm) (by k_asm) (by k_asm) (by (first | k_asm | exact rot1 (by assumption) | exact rot2 (by assumption) | exact rot3 (by assumption) | exact rot4 (by assumption) | exact rot5 (by assumption) | exact rot6 (by assumption) | exact rot7 (by assumption) | exact rot8 (by assumption))) (by k_asm) (by first | exact rfl | assumption) (by ktr_rel) (by first | assumption | lia) (by assumption) (by cb_room) (by cb_room) (by cb_room) (by cb_room) (by first | cb_room | (simp only [List.size_toArray]; lia)) (by first | cb_room | (simp only [List.size_toArray]; lia)) (by ktr_room) (by ktr_room) ?_); intro v9 t9 t8 n9 h9 tk9 b8 b9 F9 N9; (try dsimp only); (try k_fold)))) | (k_unfold; (try dsimp only)) | (k_end; wrow_close) | walk1 | (dsimp only; walk1))))
  have hve : ∀ {v : Int}, 0 ≤ v → v < 2 → ([1, 2] : List Int).getD v.toNat 0 * 65536 = 65536 ∨ ([1, 2] : List Int).getD v.toNat 0 * 65536 = 131072 := by
    intro v a b
    rcases (by lia : v = 0 ∨ v = 1) with rfl | rfl
    · exact .inl rfl
    · exact .inr rfl
  (rename (_ : Int) < 2 => b9)
  (rename 0 ≤ (_ : Int) => b8)
  have hv9 := hve b8 b9
  generalize ([1, 2] : List Int).getD _ 0 * 65536 = ve at hv9 ⊢
  have hv1 : 0 ≤ ve := by lia
  have hv2 : ve < 4294967296 := by lia
  clear hve b8 b9
  (repeat' (first | ((k_here; k_dflt ((with_reducible show wpAny _ _ (PySem.call (Value.ref 276) _ _) _ _ _); (refine' oc4_c (by k_asm) (by k_asm) (by k_asm) (by k_asm) (by k_asm) (by first | exact rfl | assumption) (by cb_room) (by cb_room) (by ktr_room) (by ktr_room) ?_); intro d9 t9 h9 tk9 e9 F9 N9; (try dsimp only); (try k_fold)))) | ((k_here; (with_reducible show wpAny _ _ (call (Value.builtin "len") [Value.ref _]) _ _ _); k_dflt (refine len_memL (by k_asm) (by repeat (first | assumption | exact .head _ | refine .tail _ ?_)) (by first | lia | (simp only [List.size_toArray]; lia)) ?_))) | ((k_here; (with_reducible show wpAny _ _ (eval (Expr.Name _ _) (envX _ _ _ _ _ _)) _ _ _); k_dflt (refine nameX_L (by k_asm) (by with_reducible assumption) ?_))) | ((k_here; k_dflt ((with_reducible show wpAny _ _ (PySem.call (Value.ref 271) _ _) _ _ _); (refine' draw_c (by k_asm) (by k_asm) (by k_asm) (by (first | k_asm | exact rot1 (by assumption) | exact rot2 (by assumption) | exact rot3 (by assumption) | exact rot4 (by assumption) | exact rot5 (by assumption) | exact rot6 (by assumption) | exact rot7 (by assumption) | exact rot8 (by assumption))) (by k_asm) (by first | exact rfl | assumption) (by ktr_rel) (by first | assumption | lia) (by assumption) (by cb_room) (by cb_room) (by cb_room) (by cb_room) (by first | cb_room | (simp only [List.size_toArray]; lia)) (by first | cb_room | (simp only [List.size_toArray]; lia)) (by ktr_room) (by ktr_room) ?_); intro v9 t9 t8 n9 h9 tk9 b8 b9 F9 N9; (try dsimp only); (try k_fold)))) | (k_unfold; (try dsimp only)) | (k_end; wrow_close) | walk1 | (dsimp only; walk1) | (leave1; walk_say "STEP leave1"; try dsimp only) | fail "no step"))
  (rename News _ _ _ _ => nR)
  (rename KBw.bInts _ = List.map _ _ ++ _ ++ _ => kz)
  exact hret ve _ _ _ _ _ _ hv9 (kz.trans (by rfl)) (by assumption) (drop3 nR)
end
end
section
theorem part30 : True := by
  w_top off
  trivial
noncomputable def J12 (news₀ : List (Addr × Obj)) (bs : List (List Int)) (i : Nat) (ys : List Value) (news : List (Addr × Obj)) : Prop :=
  news = news₀ ∧ Fours ys (bs.take i)
section
variable {w : World} {mean : ExcName → Option Value} {mg mb : PySem.Str → Option Value} {dp un : Nat} {gd : Option (List Code)} {a : Addr} {ccd : Value} {outer : List Env} {A₀ : Around} {base h₀ : Heap} {L : Addr} {m : PySem.Str → Option Value} {s : Shared} {Q : PySem.Flow → Shared → Prop} {E : Value → Shared → Prop}
set_option maxRecDepth 100000 in
set_option maxHeartbeats 8000000 in
theorem st12 {ol pd : Addr} {ovs : List Value} {ords : List Int} {on : Nat} {o4 od : Obj} {kvs : List (Int × Value)} {pl : Int → Int} {hb o : Array UInt8} {hs os : List Int} {th to : Tok} {news : List (Addr × Obj)}
  (B : Below A₀ base outer h₀) (F : Fr h₀ L s.heap m) (X : (Mine.hd.heap_39 w.params).In h₀) (N : News h₀ L s.heap (news)) (T : Top Mine.hd.view_39 (looseW Mine.hd.view_39 [Str.ofString "ShapeError", Str.ofString "VERSIONS"]) mean mg mb h₀)
  (hd : dp ≤ 310) (hu : un ≤ 1200) (mo : (ol, W.listOf ovs.toArray on) ∈ news) (ho : m (Str.ofString "order") = some (.ref ol)) (hio : IntsAre ovs ords) (hol1 : 1 ≤ ords.length) (hol2 : ords.length ≤ 4) (m4 : (L + 1 + 1 + 1 + 1, o4) ∈ news) (d4 : o4.data = .cell (some (.ref pd))) (mp : (pd, od) ∈ news) (hkv : Obj.IsDictOf (intKind PySem.Challenge.rw_pb0178_01.row.prog w) od kvs) (hpl : ∀ z ∈ ords, 0 ≤ pl z ∧ pl z < 4294967296 ∧ ∃ t, valueAt kvs z = some (.int (pl z) t)) (hhd : m (Str.ofString "head") = some (.bytes hb th)) (hhs : KBw.bInts hb = hs) (hhl : hs.length ≤ 1000) (hoc : m (Str.ofString "octets") = some (.bytes o to)) (hos : KBw.bInts o = os) (hosl : os.length ≤ 1000)
  (hret : ∀ d td h' tk', KBw.bInts d = hs ++ (ords.map fun z => be4 (pl z)).flatten ++ os → Fr h₀ L h' (fun y => if y = Str.ofString "data" then some (.bytes d td) else m y) → News h₀ L h' news → Q .next { s with heap := h', toks := tk' }) :
  wpAny (model PySem.Challenge.rw_pb0178_01.row.prog w) (ktrTop dp un gd lawN lawSc L a ccd (lawCl L) outer) (exec (lawS 12) (envX lawN lawSc L a ccd (lawCl L))) Q E s := by
  have hlen : ovs.length = ords.length := hio.length
  with_unfolding_all (show wpAny _ _ (exec (Stmt.Assign _ _ _) _) _ _ _)
  repeat' (first | ((fail_if_success (with_reducible show wpAny _ _ (eval (Expr.ListComp _ _ _ _) _) _ _ _)); (first | (with_reducible ((with_reducible show wpAny _ _ (getMethod (Value.bytes _ _) _ _) _ _ _); (k_here; with_reducible refine join_method ?_))) | ((k_here; k_dflt ((with_reducible show wpAny _ _ (PySem.call (Value.ref 276) _ _) _ _ _); (refine' oc4_c (by k_asm) (by k_asm) (by k_asm) (by k_asm) (by k_asm) (by first | exact rfl | assumption) (by cb_room) (by cb_room) (by ktr_room) (by ktr_room) ?_); intro d9 t9 h9 tk9 e9 F9 N9; (try dsimp only); (try k_fold)))) | ((k_here; (with_reducible show wpAny _ _ (call (Value.builtin "len") [Value.ref _]) _ _ _); k_dflt (refine len_memL (by k_asm) (by repeat (first | assumption | exact .head _ | refine .tail _ ?_)) (by first | lia | (simp only [List.size_toArray]; lia)) ?_))) | ((k_here; (with_reducible show wpAny _ _ (eval (Expr.Name _ _) (envX _ _ _ _ _ _)) _ _ _); k_dflt (refine nameX_L (by k_asm) (by with_reducible assumption) ?_))) | (k_unfold; (try dsimp only)) | (k_end; wrow_close) | walk1 | (dsimp only; walk1))))
  refine ListComp_W (F₀ := F) (by with_unfolding_all rfl) (by decide) (by rfl) (by decide) (by rfl) (by intro _; with_unfolding_all rfl) ?_
  repeat' (first | ((fail_if_success (with_reducible show CompSrcW _ _ _ _ _ _ _ _ _ _ _ _ _ _)); (first | (with_reducible ((with_reducible show wpAny _ _ (getMethod (Value.bytes _ _) _ _) _ _ _); (k_here; with_reducible refine join_method ?_))) | ((k_here; k_dflt ((with_reducible show wpAny _ _ (PySem.call (Value.ref 276) _ _) _ _ _); (refine' oc4_c (by k_asm) (by k_asm) (by k_asm) (by k_asm) (by k_asm) (by first | exact rfl | assumption) (by cb_room) (by cb_room) (by ktr_room) (by ktr_room) ?_); intro d9 t9 h9 tk9 e9 F9 N9; (try dsimp only); (try k_fold)))) | ((k_here; (with_reducible show wpAny _ _ (call (Value.builtin "len") [Value.ref _]) _ _ _); k_dflt (refine len_memL (by k_asm) (by repeat (first | assumption | exact .head _ | refine .tail _ ?_)) (by first | lia | (simp only [List.size_toArray]; lia)) ?_))) | ((k_here; (with_reducible show wpAny _ _ (eval (Expr.Name _ _) (envX _ _ _ _ _ _)) _ _ _); k_dflt (refine nameX_L (by k_asm) (by with_reducible assumption) ?_))) | (k_unfold; (try dsimp only)) | (k_end; wrow_close) | walk1 | (dsimp only; walk1))))
  have hS : PyProof.Rows.LCg.SrcAt h₀ ol ovs.toArray news := .inr ⟨_, mo, rfl, _, rfl⟩
  (rename News _ _ _ _ => nR)
  (rename Fr _ _ _ _ => fR)
  refine CompSrcW.mk (iter_list hS rfl fR nR) fR nR ?hsz hS fun g => compRest_inv (J12 news (ords.map fun z => be4 (pl z))) ?j0 ?step ?fin
  case hsz => rw [List.size_toArray, sizeLine_eq]; lia
  case j0 => exact ⟨rfl, .nil⟩
  case step =>
    clear nR fR
    intro j ys news₁ v I oI C oC D m₂ h tk E' hj hJ hP hC hx F₁ N₁ off₁ ne
    obtain ⟨rfl, hfo⟩ := hJ
    rw [List.size_toArray] at hj
    have hj2 : j < ords.length := by lia
    obtain ⟨tz, hvz⟩ := ints_get hio hj hj2
    obtain rfl : v = .int ords[j] tz := by
      have h1 : ovs[j]? = some v := by simpa using hP
      rw [List.getElem?_eq_getElem hj, hvz] at h1
      exact (Option.some.inj h1).symm
    obtain ⟨z0, z1, tp, hval⟩ := hpl _ (List.getElem_mem hj2)
    have htk : (ords.map fun z => be4 (pl z)).take (j + 1) = (ords.map fun z => be4 (pl z)).take j ++ [be4 (pl ords[j])] := by
      rw [List.take_succ_eq_append_getElem (by simpa using hj2), List.getElem_map]
    have k4 : (L + 1 + 1 + 1 + 1, o4) ∈ (I, oI) :: (C, oC) :: (D, PyProof.Rows.LCg.lst ys) :: news₁ := .tail _ (.tail _ (.tail _ m4))
    have kp : (pd, od) ∈ (I, oI) :: (C, oC) :: (D, PyProof.Rows.LCg.lst ys) :: news₁ := .tail _ (.tail _ (.tail _ mp))
    generalize ords[j] = z at *
    repeat' (first | ((fail_if_success (with_reducible show wpAny _ _ (subscriptTail _ _ _ _) _ _ _)); (first | (with_reducible ((with_reducible show wpAny _ _ (getMethod (Value.bytes _ _) _ _) _ _ _); (k_here; with_reducible refine join_method ?_))) | ((k_here; k_dflt ((with_reducible show wpAny _ _ (PySem.call (Value.ref 276) _ _) _ _ _); (refine' oc4_c (by k_asm) (by k_asm) (by k_asm) (by k_asm) (by k_asm) (by first | exact rfl | assumption) (by cb_room) (by cb_room) (by ktr_room) (by ktr_room) ?_); intro d9 t9 h9 tk9 e9 F9 N9; (try dsimp only); (try k_fold)))) | ((k_here; (with_reducible show wpAny _ _ (call (Value.builtin "len") [Value.ref _]) _ _ _); k_dflt (refine len_memL (by k_asm) (by repeat (first | assumption | exact .head _ | refine .tail _ ?_)) (by first | lia | (simp only [List.size_toArray]; lia)) ?_))) | ((k_here; (with_reducible show wpAny _ _ (eval (Expr.Name _ _) (envX _ _ _ _ _ _)) _ _ _); k_dflt (refine nameX_L (by k_asm) (by with_reducible assumption) ?_))) | (k_unfold; (try dsimp only)) | (k_end; wrow_close) | walk1 | (dsimp only; walk1))))
    refine kda_item (knd := intKind PySem.Challenge.rw_pb0178_01.row.prog w) (k := z) N₁ kp hkv (by show Value.isInt z (.int z tz) = true; simp [Value.isInt]) hval ?_ (by with_unfolding_all rfl) (by intro _; with_unfolding_all rfl)
    (repeat' (first | (with_reducible ((with_reducible show wpAny _ _ (getMethod (Value.bytes _ _) _ _) _ _ _); (k_here; with_reducible refine join_method ?_))) | ((k_here; k_dflt ((with_reducible show wpAny _ _ (PySem.call (Value.ref 276) _ _) _ _ _); (refine' oc4_c (by k_asm) (by k_asm) (by k_asm) (by k_asm) (by k_asm) (by first | exact rfl | assumption) (by cb_room) (by cb_room) (by ktr_room) (by ktr_room) ?_); intro d9 t9 h9 tk9 e9 F9 N9; (try dsimp only); (try k_fold)))) | ((k_here; (with_reducible show wpAny _ _ (call (Value.builtin "len") [Value.ref _]) _ _ _); k_dflt (refine len_memL (by k_asm) (by repeat (first | assumption | exact .head _ | refine .tail _ ?_)) (by first | lia | (simp only [List.size_toArray]; lia)) ?_))) | ((k_here; (with_reducible show wpAny _ _ (eval (Expr.Name _ _) (envX _ _ _ _ _ _)) _ _ _); k_dflt (refine nameX_L (by k_asm) (by with_reducible assumption) ?_))) | (k_unfold; (try dsimp only)) | (k_end; wrow_close) | walk1 | (dsimp only; walk1) | (leave1; walk_say "STEP leave1"; try dsimp only) | fail "no step"))
    refine PyProof.Rows.LCg.CompEnd.intro (all := _) (by assumption) (by assumption) _ (fun p hp => hp) off₁ (.inr ⟨_, mo, rfl, _, rfl⟩) ⟨rfl, ?_⟩
    rw [htk]
    exact .snoc hfo (by assumption) rfl
  case fin =>
    intro ys news' hJ
    obtain ⟨rfl, hfo⟩ := hJ
    intro D h' tk' F₂ N₂ oD
    clear nR fR
    repeat' (first | ((fail_if_success (with_reducible show wpAny _ _ (PySem.call (Value.builtin "bytes.join") _ _) _ _ _)); (first | (with_reducible ((with_reducible show wpAny _ _ (getMethod (Value.bytes _ _) _ _) _ _ _); (k_here; with_reducible refine join_method ?_))) | ((k_here; k_dflt ((with_reducible show wpAny _ _ (PySem.call (Value.ref 276) _ _) _ _ _); (refine' oc4_c (by k_asm) (by k_asm) (by k_asm) (by k_asm) (by k_asm) (by first | exact rfl | assumption) (by cb_room) (by cb_room) (by ktr_room) (by ktr_room) ?_); intro d9 t9 h9 tk9 e9 F9 N9; (try dsimp only); (try k_fold)))) | ((k_here; (with_reducible show wpAny _ _ (call (Value.builtin "len") [Value.ref _]) _ _ _); k_dflt (refine len_memL (by k_asm) (by repeat (first | assumption | exact .head _ | refine .tail _ ?_)) (by first | lia | (simp only [List.size_toArray]; lia)) ?_))) | ((k_here; (with_reducible show wpAny _ _ (eval (Expr.Name _ _) (envX _ _ _ _ _ _)) _ _ _); k_dflt (refine nameX_L (by k_asm) (by with_reducible assumption) ?_))) | (k_unfold; (try dsimp only)) | (k_end; wrow_close) | walk1 | (dsimp only; walk1))))
    have hys := hfo.len
    rw [List.size_toArray, List.length_take, List.length_map] at hys
    rw [List.size_toArray, hlen, show ords.length = (ords.map fun z => be4 (pl z)).length by simp, List.take_length] at hfo
    refine join_w hfo (by lia) (by lia) F₂ X N₂ (.head _) (by lia) (by lia) ?_
    intro jb h3 tk3 t3 hjb F₃ N₃
    have hjl : ∀ l : List Int, (l.map fun z => be4 (pl z)).flatten.length = 4 * l.length := by
      intro l
      induction l with
      | nil => rfl
      | cons z l ih => rw [List.map_cons, List.flatten_cons, List.length_append, ih]; simp [be4]; lia
    have hjl := hjl ords
    generalize (ords.map fun z => be4 (pl z)).flatten = js at hjb hjl hret
    have hjl : js.length ≤ 16 := by lia
    (repeat' (first | (with_reducible ((with_reducible show wpAny _ _ (getMethod (Value.bytes _ _) _ _) _ _ _); (k_here; with_reducible refine join_method ?_))) | ((k_here; k_dflt ((with_reducible show wpAny _ _ (PySem.call (Value.ref 276) _ _) _ _ _); (refine' oc4_c (by k_asm) (by k_asm) (by k_asm) (by k_asm) (by k_asm) (by first | exact rfl | assumption) (by cb_room) (by cb_room) (by ktr_room) (by ktr_room) ?_); intro d9 t9 h9 tk9 e9 F9 N9; (try dsimp only); (try k_fold)))) | ((k_here; (with_reducible show wpAny _ _ (call (Value.builtin "len") [Value.ref _]) _ _ _); k_dflt (refine len_memL (by k_asm) (by repeat (first | assumption | exact .head _ | refine .tail _ ?_)) (by first | lia | (simp only [List.size_toArray]; lia)) ?_))) | ((k_here; (with_reducible show wpAny _ _ (eval (Expr.Name _ _) (envX _ _ _ _ _ _)) _ _ _); k_dflt (refine nameX_L (by k_asm) (by with_reducible assumption) ?_))) | (k_unfold; (try dsimp only)) | (k_end; wrow_close) | walk1 | (dsimp only; walk1) | (leave1; walk_say "STEP leave1"; try dsimp only) | fail "no step"))
    exact hret _ _ _ _ (by assumption) (by assumption) (news_drop (by assumption))
end
end
section
theorem part31 : True := by
  w_top off
  trivial
inductive BytesL : List Value → List (List Int) → Prop
  | nil : BytesL [] []
  | cons {b : Array UInt8} {t : Tok} {x : List Int} {ys : List Value} {xs : List (List Int)} (e : KBw.bInts b = x) (h : BytesL ys xs) : BytesL (.bytes b t :: ys) (x :: xs)
theorem BytesL.append {ys zs : List Value} {xs ws : List (List Int)} (h : BytesL ys xs) (k : BytesL zs ws) : BytesL (ys ++ zs) (xs ++ ws) := by
  induction h with
  | nil => exact k
  | cons e _ ih => exact .cons e ih
theorem dropB {h₀ h : Heap} {L : Addr} {a b : Addr × Obj} {R : List (Addr × Obj)} (N : News h₀ L h (a :: b :: R)) : News h₀ L h (a :: R) := fun q hq => N q (by
  refine List.subset_def.mp ?_ hq
  repeat (first | refine List.cons_subset.mpr ⟨by repeat (first | exact .head _ | refine .tail _ ?_), ?_⟩ | refine List.append_subset.mpr ⟨?_, ?_⟩)
  all_goals first | exact List.nil_subset _ | exact fun _ h => by repeat (first | exact h | exact List.mem_append_left _ h | refine .tail _ ?_ | refine List.mem_append_right _ ?_))
section
variable {w : World} {mean : ExcName → Option Value} {mg mb : PySem.Str → Option Value} {dp un : Nat} {gd : Option (List Code)} {a : Addr} {ccd : Value} {outer : List Env} {A₀ : Around} {base h₀ : Heap} {L : Addr} {m : PySem.Str → Option Value} {s : Shared} {Q : PySem.Flow → Shared → Prop} {E : Value → Shared → Prop}
set_option maxRecDepth 100000 in
set_option maxHeartbeats 8000000 in
theorem st17 {d : Array UInt8} {ks : List Int} {td : Tok} {news : List (Addr × Obj)}
  (B : Below A₀ base outer h₀) (F : Fr h₀ L s.heap m) (X : (Mine.hd.heap_39 w.params).In h₀) (N : News h₀ L s.heap (news)) (T : Top Mine.hd.view_39 (looseW Mine.hd.view_39 [Str.ofString "ShapeError", Str.ofString "VERSIONS"]) mean mg mb h₀)
  (hd : dp ≤ 310) (hu : un ≤ 1200) (hdd : m (Str.ofString "data") = some (.bytes d td)) (hks : KBw.bInts d = ks) (hs : ks.length ≤ 2000) (hs1 : 16 ≤ ks.length)
  (hret : ∀ hl ys n h' tk', BytesL ys [[116, 116, 99, 120] ++ ks.drop 4, ks.take 4 ++ [0, 3] ++ ks.drop 6, ks.take 8 ++ [0, 0, 0, 0] ++ ks.drop 12, ks.take 8 ++ be4 65 ++ ks.drop 12 ++ List.replicate 260 0] → Fr h₀ L h' (fun y => if y = Str.ofString "hurts" then some (.ref hl) else m y) → News h₀ L h' ((hl, W.listOf (List.toArray ys) n) :: news) → Q .next { s with heap := h', toks := tk' }) :
  wpAny (model PySem.Challenge.rw_pb0178_01.row.prog w) (ktrTop dp un gd lawN lawSc L a ccd (lawCl L) outer) (exec (lawS 17) (envX lawN lawSc L a ccd (lawCl L))) Q E s := by
  with_unfolding_all (show wpAny _ _ (exec (Stmt.Assign _ _ _) _) _ _ _)
  (repeat' (first | ((k_here; (with_reducible show wpAny _ _ (call (Value.type "bytes") [Value.int _ _]) _ _ _); k_dflt ((first | refine' zero4_w (by k_asm) (by k_asm) (by k_asm) (by lia) (by lia) ?_ | refine' zero260_w (by k_asm) (by k_asm) (by k_asm) (by lia) (by lia) ?_); intro b9 z9 h9 tk9 t9 y9 l9 e9 F9 N9))) | ((k_here; k_dflt ((with_reducible show wpAny _ _ (PySem.call (Value.ref 276) _ _) _ _ _); (refine' oc4_c (by k_asm) (by k_asm) (by k_asm) (by k_asm) (by k_asm) (by first | exact rfl | assumption) (by cb_room) (by cb_room) (by ktr_room) (by ktr_room) ?_); intro d9 t9 h9 tk9 e9 F9 N9; (try dsimp only); (try k_fold)))) | ((k_here; (with_reducible show wpAny _ _ (call (Value.builtin "len") [Value.ref _]) _ _ _); k_dflt (refine len_memL (by k_asm) (by repeat (first | assumption | exact .head _ | refine .tail _ ?_)) (by first | lia | (simp only [List.size_toArray]; lia)) ?_))) | ((k_here; (with_reducible show wpAny _ _ (eval (Expr.Name _ _) (envX _ _ _ _ _ _)) _ _ _); k_dflt (refine nameX_L (by k_asm) (by with_reducible assumption) ?_))) | (with_reducible ((k_here; (with_reducible show wpAny _ _ (subscriptTail _ (Expr.Slice _ _ none _) (Value.bytes _ _) (Value.ref _)) _ _ _); (with_reducible rename Fr _ _ _ _ => F'); (with_reducible rename News _ _ _ _ => N'); (first | (refine sliceIJ (s := ⟨_, _, _, _, _⟩) F' N' (by assumption) (by lia) (by lia) (by first | lia | (simp only [List.length_append, List.length_take, List.length_drop, List.length_cons, List.length_nil]; lia)) (by lia) ?_ (by with_unfolding_all rfl) (by intro _; with_unfolding_all rfl)) | (refine sliceI (s := ⟨_, _, _, _, _⟩) F' N' (by assumption) (by lia) (by first | lia | (simp only [List.length_append, List.length_take, List.length_drop, List.length_cons, List.length_nil]; lia)) (by lia) ?_ (by with_unfolding_all rfl) (by intro _; with_unfolding_all rfl)) | (refine sliceJ (s := ⟨_, _, _, _, _⟩) F' N' (by assumption) (by lia) (by first | lia | (simp only [List.length_append, List.length_take, List.length_drop, List.length_cons, List.length_nil]; lia)) (by lia) ?_ (by with_unfolding_all rfl) (by intro _; with_unfolding_all rfl))); intro bS' hS' tS' kS' fS' nS' eS'; clear F' N'))) | (k_unfold; (try dsimp only)) | (k_end; wrow_close) | walk1 | (dsimp only; walk1) | (leave1; walk_say "STEP leave1"; try dsimp only) | fail "no step"))
  (rename _ = List.replicate 4 (0 : Int) => y4)
  (rename _ = List.replicate 260 (0 : Int) => y260)
  subst y4
  subst y260
  (rename News _ _ _ _ => nR)
  refine hret _ [_, _, _, _] 0 _ _ ?y (by assumption) nR
  refine .cons ?a (.cons ?b (.cons ?c (.cons ?d .nil)))
  case a => exact Eq.trans (by assumption) rfl
  case b => exact Eq.trans (by assumption) rfl
  case c => exact Eq.trans (by assumption) rfl
  case d => exact Eq.trans (by assumption) rfl
set_option maxRecDepth 100000 in
set_option maxHeartbeats 8000000 in
theorem st18 {d : Array UInt8} {ks : List Int} {td tf : Tok} {hl : Addr} {ys : List Value} {xs : List (List Int)} {n nn f : Nat} {ol : Addr} {ors : Array Value} {on : Nat} {news : List (Addr × Obj)}
  (B : Below A₀ base outer h₀) (F : Fr h₀ L s.heap m) (X : (Mine.hd.heap_39 w.params).In h₀) (N : News h₀ L s.heap (news)) (T : Top Mine.hd.view_39 (looseW Mine.hd.view_39 [Str.ofString "ShapeError", Str.ofString "VERSIONS"]) mean mg mb h₀)
  (hd : dp ≤ 310) (hu : un ≤ 1200) (hdd : m (Str.ofString "data") = some (.bytes d td)) (hks : KBw.bInts d = ks) (hs : ks.length ≤ 2000) (hs1 : 16 ≤ ks.length) (hf : m (Str.ofString "first") = some (.int (f : Int) tf)) (hf2 : f < ks.length) (ho : m (Str.ofString "order") = some (.ref ol)) (mo : (ol, W.listOf ors on) ∈ news) (hol : ors.size ≤ 4) (hs2 : 12 + 4 * ors.size ≤ ks.length) (hh : m (Str.ofString "hurts") = some (.ref hl)) (mh : (hl, W.listOf (List.toArray ys) n) ∈ news) (hy : BytesL ys xs) (hyl : ys.length = 4)
  (hret : ∀ hl' ys' n h' tk', BytesL ys' (xs ++ [ks.take f ++ [9] ++ ks.drop (f + 1), ks.take 11, ks.take (11 + 4 * ors.size), ks.take 12 ++ be4 ((ks.length : Int) - 11) ++ ks.drop 16]) → Fr h₀ L h' (fun y => if y = Str.ofString "hurts" then some (.ref hl') else m y) → News h₀ L h' ((hl', W.listOf (List.toArray ys') n) :: news) → Q .next { s with heap := h', toks := tk' }) :
  wpAny (model PySem.Challenge.rw_pb0178_01.row.prog w) (ktrTop dp un gd lawN lawSc L a ccd (lawCl L) outer) (exec (lawS 18) (envX lawN lawSc L a ccd (lawCl L))) Q E s := by
  with_unfolding_all (show wpAny _ _ (exec (Stmt.Assign _ _ _) _) _ _ _)
  (repeat' (first | ((k_here; (with_reducible show wpAny _ _ (call (Value.type "bytes") [Value.int _ _]) _ _ _); k_dflt ((first | refine' zero4_w (by k_asm) (by k_asm) (by k_asm) (by lia) (by lia) ?_ | refine' zero260_w (by k_asm) (by k_asm) (by k_asm) (by lia) (by lia) ?_); intro b9 z9 h9 tk9 t9 y9 l9 e9 F9 N9))) | ((k_here; k_dflt ((with_reducible show wpAny _ _ (PySem.call (Value.ref 276) _ _) _ _ _); (refine' oc4_c (by k_asm) (by k_asm) (by k_asm) (by k_asm) (by k_asm) (by first | exact rfl | assumption) (by cb_room) (by cb_room) (by ktr_room) (by ktr_room) ?_); intro d9 t9 h9 tk9 e9 F9 N9; (try dsimp only); (try k_fold)))) | ((k_here; (with_reducible show wpAny _ _ (call (Value.builtin "len") [Value.ref _]) _ _ _); k_dflt (refine len_memL (by k_asm) (by repeat (first | assumption | exact .head _ | refine .tail _ ?_)) (by first | lia | (simp only [List.size_toArray]; lia)) ?_))) | ((k_here; (with_reducible show wpAny _ _ (eval (Expr.Name _ _) (envX _ _ _ _ _ _)) _ _ _); k_dflt (refine nameX_L (by k_asm) (by with_reducible assumption) ?_))) | (with_reducible ((k_here; (with_reducible show wpAny _ _ (subscriptTail _ (Expr.Slice _ _ none _) (Value.bytes _ _) (Value.ref _)) _ _ _); (with_reducible rename Fr _ _ _ _ => F'); (with_reducible rename News _ _ _ _ => N'); (first | (refine sliceIJ (s := ⟨_, _, _, _, _⟩) F' N' (by assumption) (by lia) (by lia) (by first | lia | (simp only [List.length_append, List.length_take, List.length_drop, List.length_cons, List.length_nil]; lia)) (by lia) ?_ (by with_unfolding_all rfl) (by intro _; with_unfolding_all rfl)) | (refine sliceI (s := ⟨_, _, _, _, _⟩) F' N' (by assumption) (by lia) (by first | lia | (simp only [List.length_append, List.length_take, List.length_drop, List.length_cons, List.length_nil]; lia)) (by lia) ?_ (by with_unfolding_all rfl) (by intro _; with_unfolding_all rfl)) | (refine sliceJ (s := ⟨_, _, _, _, _⟩) F' N' (by assumption) (by lia) (by first | lia | (simp only [List.length_append, List.length_take, List.length_drop, List.length_cons, List.length_nil]; lia)) (by lia) ?_ (by with_unfolding_all rfl) (by intro _; with_unfolding_all rfl))); intro bS' hS' tS' kS' fS' nS' eS'; clear F' N'))) | (k_unfold; (try dsimp only)) | (k_end; wrow_close) | walk1 | (dsimp only; walk1) | (leave1; walk_say "STEP leave1"; try dsimp only) | fail "no step"))
  (rename News _ _ _ _ => nR)
  (rename Fr _ _ _ _ => fR)
  refine kmk_add_lit (its := ys.toArray) (zs := ys ++ [_, _, _, _]) fR nR ⟨_, nR.get (.tail _ mh), rfl, n, rfl⟩ ⟨_, nR.get (.head _), rfl, 0, rfl⟩ rfl ?_ (by rw [sizeLine_eq]; simp [hyl])
  intro D8 h8 F8 N8 l8
  clear fR nR
  (repeat' (first | ((k_here; (with_reducible show wpAny _ _ (call (Value.type "bytes") [Value.int _ _]) _ _ _); k_dflt ((first | refine' zero4_w (by k_asm) (by k_asm) (by k_asm) (by lia) (by lia) ?_ | refine' zero260_w (by k_asm) (by k_asm) (by k_asm) (by lia) (by lia) ?_); intro b9 z9 h9 tk9 t9 y9 l9 e9 F9 N9))) | ((k_here; k_dflt ((with_reducible show wpAny _ _ (PySem.call (Value.ref 276) _ _) _ _ _); (refine' oc4_c (by k_asm) (by k_asm) (by k_asm) (by k_asm) (by k_asm) (by first | exact rfl | assumption) (by cb_room) (by cb_room) (by ktr_room) (by ktr_room) ?_); intro d9 t9 h9 tk9 e9 F9 N9; (try dsimp only); (try k_fold)))) | ((k_here; (with_reducible show wpAny _ _ (call (Value.builtin "len") [Value.ref _]) _ _ _); k_dflt (refine len_memL (by k_asm) (by repeat (first | assumption | exact .head _ | refine .tail _ ?_)) (by first | lia | (simp only [List.size_toArray]; lia)) ?_))) | ((k_here; (with_reducible show wpAny _ _ (eval (Expr.Name _ _) (envX _ _ _ _ _ _)) _ _ _); k_dflt (refine nameX_L (by k_asm) (by with_reducible assumption) ?_))) | (with_reducible ((k_here; (with_reducible show wpAny _ _ (subscriptTail _ (Expr.Slice _ _ none _) (Value.bytes _ _) (Value.ref _)) _ _ _); (with_reducible rename Fr _ _ _ _ => F'); (with_reducible rename News _ _ _ _ => N'); (first | (refine sliceIJ (s := ⟨_, _, _, _, _⟩) F' N' (by assumption) (by lia) (by lia) (by first | lia | (simp only [List.length_append, List.length_take, List.length_drop, List.length_cons, List.length_nil]; lia)) (by lia) ?_ (by with_unfolding_all rfl) (by intro _; with_unfolding_all rfl)) | (refine sliceI (s := ⟨_, _, _, _, _⟩) F' N' (by assumption) (by lia) (by first | lia | (simp only [List.length_append, List.length_take, List.length_drop, List.length_cons, List.length_nil]; lia)) (by lia) ?_ (by with_unfolding_all rfl) (by intro _; with_unfolding_all rfl)) | (refine sliceJ (s := ⟨_, _, _, _, _⟩) F' N' (by assumption) (by lia) (by first | lia | (simp only [List.length_append, List.length_take, List.length_drop, List.length_cons, List.length_nil]; lia)) (by lia) ?_ (by with_unfolding_all rfl) (by intro _; with_unfolding_all rfl))); intro bS' hS' tS' kS' fS' nS' eS'; clear F' N'))) | (k_unfold; (try dsimp only)) | (k_end; wrow_close) | walk1 | (dsimp only; walk1) | (leave1; walk_say "STEP leave1"; try dsimp only) | fail "no step"))
  refine hret _ _ 0 _ _ ?y (by assumption) (dropB (by assumption))
  refine hy.append (.cons ?a (.cons ?b (.cons ?c (.cons ?d .nil))))
  case a => exact Eq.trans (by assumption) rfl
  case b => exact Eq.trans (by assumption) rfl
  case c => exact Eq.trans (by assumption) (congrArg (fun k => List.take k ks) (by lia))
  case d => exact Eq.trans (by assumption) rfl
end
end
section
theorem part32 : True := by
  w_top off
  trivial
theorem BytesL.get {ys : List Value} {xs : List (List Int)} (h : BytesL ys xs) : ∀ (j : Nat) (v : Value), ys[j]? = some v → ∃ b t x, v = .bytes b t ∧ x ∈ xs ∧ KBw.bInts b = x := by
  induction h with
  | nil => intro j v h; simp at h
  | @cons b t x ys xs e _ ih =>
    intro j v hv
    cases j with
    | zero => simp at hv; exact ⟨b, t, x, hv.symm, .head _, e⟩
    | succ j =>
      obtain ⟨b', t', x', h1, h2, h3⟩ := ih j v (by simpa using hv)
      exact ⟨b', t', x', h1, .tail _ h2, h3⟩
open PyProof.Rows.LCg in
/-- a comprehension whose test fails at every turn gives nothing -/
theorem restT_none {prog : Program} {w : World} {A : Around} {s : Shared} {h₀ : Heap} {L : Addr} {m : PySem.Str → Option Value} {env : Env} {ct elt : Expr} {x : PySem.Str} {scope : Scope} {cl : List (PySem.Str × Addr)} {S : List (Addr × Obj) → Prop} {P : Nat → Value → Prop} {Fin : List Value → List (Addr × Obj) → Prop} {n : Nat} {news : List (Addr × Obj)}
  (hS : S news) (fin : Fin [] news)
  (step : ∀ i v I oI C oC D m₂ h tk (E' : Value → Shared → Prop), i < n → P i v → NsObj oC m₂ → m₂ x = some v → Fr h₀ L h m → News h₀ L h ((I, oI) :: (C, oC) :: (D, lst []) :: news) → Off3 I C D news → ((@Ne Nat I C) ∧ (@Ne Nat I D) ∧ (@Ne Nat C D)) →
    wpAny (model prog w) A (isTrue ct (compEnvC scope cl C env) (eval ct (compEnvC scope cl C env))) (fun ok s' => ok = false ∧ ∃ h' tk', s' = { s with heap := h', toks := tk' } ∧ Fr h₀ L h' m ∧ News h₀ L h' ((I, oI) :: (C, oC) :: (D, lst []) :: news)) E' { s with heap := h, toks := tk }) :
  PyProof.Rows.LCt.CompRestT prog w A h₀ L m env ct elt x scope cl s S P Fin n 0 [] news := by
  have all : ∀ k i, i + k = n → PyProof.Rows.LCt.CompRestT prog w A h₀ L m env ct elt x scope cl s S P Fin k i [] news := by
    intro k
    induction k with
    | zero => intro i _; exact fin
    | succ k ih =>
      intro i hi
      refine PyProof.Rows.LCt.CompRestT.succ fun v I oI C oC D m₂ h tk E' hP hC hx F N off ne => ?_
      refine wpAny_mono (step i v I oI C oC D m₂ h tk E' (by lia) hP hC hx F N off ne) (fun ok s' h' => ?_) fun _ _ e => e
      obtain ⟨rfl, h2, tk2, rfl, F2, N2⟩ := h'
      rw [if_neg (by simp)]
      exact CompEnd.intro (all := _) F2 N2 news (fun p hp => hp) off hS (ih (i + 1) (by lia))
  exact all n 0 (Nat.zero_add n)
section
variable {w : World} {mean : ExcName → Option Value} {mg mb : PySem.Str → Option Value} {dp un : Nat} {gd : Option (List Code)} {a : Addr} {ccd : Value} {outer : List Env} {A₀ : Around} {base h₀ : Heap} {L : Addr} {m : PySem.Str → Option Value} {s : Shared} {Q : PySem.Flow → Shared → Prop} {E : Value → Shared → Prop}
set_option maxRecDepth 100000 in
set_option maxHeartbeats 8000000 in
theorem st19 {hl : Addr} {ys : List Value} {xs : List (List Int)} {n : Nat} {news : List (Addr × Obj)}
  (B : Below A₀ h₀ outer h₀) (F : Fr h₀ L s.heap m) (X : (Mine.hd.heap_39 w.params).In h₀) (N : News h₀ L s.heap (news)) (T : Top Mine.hd.view_39 (looseW Mine.hd.view_39 [Str.ofString "ShapeError", Str.ofString "VERSIONS"]) mean mg mb h₀)
  (hd : dp ≤ 310) (hu : un ≤ 1200) (hh : m (Str.ofString "hurts") = some (.ref hl)) (mh : (hl, W.listOf ys.toArray n) ∈ news) (hy : BytesL ys xs) (hyl : ys.length ≤ 8) (hb : ∀ x ∈ xs, RcBad x ∧ x.length ≤ 1048576)
  (hret : ∀ h' tk', Fr h₀ L h' m → Q (.ret (.bool true)) { s with heap := h', toks := tk' }) :
  wpAny (model PySem.Challenge.rw_pb0178_01.row.prog w) (ktrTop dp un gd lawN lawSc L a ccd (lawCl L) outer) (exec (lawS 19) (envX lawN lawSc L a ccd (lawCl L))) Q E s := by
  with_unfolding_all (show wpAny _ _ (exec (Stmt.Return _ _) _) _ _ _)
  repeat' (first | ((fail_if_success (with_reducible show wpAny _ _ (eval (Expr.ListComp _ _ _ _) _) _ _ _)); (first | ((k_here; (with_reducible show wpAny _ _ (call (Value.builtin "len") [Value.ref _]) _ _ _); k_dflt (refine len_memL (by k_asm) (by repeat (first | assumption | exact .head _ | refine .tail _ ?_)) (by first | lia | (simp only [List.size_toArray]; lia)) ?_))) | ((k_here; (with_reducible show wpAny _ _ (eval (Expr.Name _ _) (envX _ _ _ _ _ _)) _ _ _); k_dflt (refine nameX_L (by k_asm) (by with_reducible assumption) ?_))) | (k_unfold; (try dsimp only)) | (k_end; wrow_close) | walk1 | (dsimp only; walk1))))
  refine PyProof.Rows.LCt.ListComp_T (F₀ := F) (by with_unfolding_all rfl) (by decide) (by rfl) (by decide) (by rfl) ?_ (by intro _; with_unfolding_all rfl)
  repeat' (first | ((fail_if_success (with_reducible show PyProof.Rows.LCt.CompSrcT _ _ _ _ _ _ _ _ _ _ _ _ _ _ _)); (first | ((k_here; (with_reducible show wpAny _ _ (call (Value.builtin "len") [Value.ref _]) _ _ _); k_dflt (refine len_memL (by k_asm) (by repeat (first | assumption | exact .head _ | refine .tail _ ?_)) (by first | lia | (simp only [List.size_toArray]; lia)) ?_))) | ((k_here; (with_reducible show wpAny _ _ (eval (Expr.Name _ _) (envX _ _ _ _ _ _)) _ _ _); k_dflt (refine nameX_L (by k_asm) (by with_reducible assumption) ?_))) | (k_unfold; (try dsimp only)) | (k_end; wrow_close) | walk1 | (dsimp only; walk1))))
  (rename News _ _ _ _ => nR)
  (rename Fr _ _ _ _ => fR)
  refine PyProof.Rows.LCt.CompSrcT.ledger rfl fR nR mh (by rw [List.size_toArray, sizeLine_eq]; lia) fun g => ?_
  have hS : PyProof.Rows.LCg.SrcAt h₀ hl ys.toArray news := .inr ⟨_, mh, rfl, _, rfl⟩
  clear nR fR
  refine restT_none hS ?fin ?step
  case step =>
    intro i v I oI C oC D m₂ h tk E' hi hP hC hx F₁ N₁ off₁ ne
    obtain ⟨b, t, x, rfl, hxs, hbx⟩ := hy.get i v (by simpa using hP)
    obtain ⟨hbad, hlen⟩ := hb x hxs
    repeat' (first | ((fail_if_success (with_reducible show wpAny _ _ (PySem.call (Value.ref 288) _ _) _ _ _)); (first | ((k_here; (with_reducible show wpAny _ _ (call (Value.builtin "len") [Value.ref _]) _ _ _); k_dflt (refine len_memL (by k_asm) (by repeat (first | assumption | exact .head _ | refine .tail _ ?_)) (by first | lia | (simp only [List.size_toArray]; lia)) ?_))) | ((k_here; (with_reducible show wpAny _ _ (eval (Expr.Name _ _) (envX _ _ _ _ _ _)) _ _ _); k_dflt (refine nameX_L (by k_asm) (by with_reducible assumption) ?_))) | (k_unfold; (try dsimp only)) | (k_end; wrow_close) | walk1 | (dsimp only; walk1))))
    refine refused_c B F₁ X N₁ T lawSc_fn hbx hlen hbad (by lia) (by lia) ?_
    intro h2 tk2 F₂ N₂
    (repeat' (first | ((k_here; (with_reducible show wpAny _ _ (call (Value.builtin "len") [Value.ref _]) _ _ _); k_dflt (refine len_memL (by k_asm) (by repeat (first | assumption | exact .head _ | refine .tail _ ?_)) (by first | lia | (simp only [List.size_toArray]; lia)) ?_))) | ((k_here; (with_reducible show wpAny _ _ (eval (Expr.Name _ _) (envX _ _ _ _ _ _)) _ _ _); k_dflt (refine nameX_L (by k_asm) (by with_reducible assumption) ?_))) | (k_unfold; (try dsimp only)) | (k_end; wrow_close) | walk1 | (dsimp only; walk1) | (leave1; walk_say "STEP leave1"; try dsimp only) | fail "no step"))
    · exact F₂
    · exact N₂
  case fin =>
    intro D h' tk' F₂ N₂ oD
    (repeat' (first | ((k_here; (with_reducible show wpAny _ _ (call (Value.builtin "len") [Value.ref _]) _ _ _); k_dflt (refine len_memL (by k_asm) (by repeat (first | assumption | exact .head _ | refine .tail _ ?_)) (by first | lia | (simp only [List.size_toArray]; lia)) ?_))) | ((k_here; (with_reducible show wpAny _ _ (eval (Expr.Name _ _) (envX _ _ _ _ _ _)) _ _ _); k_dflt (refine nameX_L (by k_asm) (by with_reducible assumption) ?_))) | (k_unfold; (try dsimp only)) | (k_end; wrow_close) | walk1 | (dsimp only; walk1) | (leave1; walk_say "STEP leave1"; try dsimp only) | fail "no step"))
    exact hret _ _ (by assumption)
end
end
section
theorem pm6 {h₀ h : Heap} {L : Addr} {a1 a2 a3 a4 c t : Addr × Obj} {R : List (Addr × Obj)} (N : News h₀ L h (t :: c :: a1 :: a2 :: a3 :: a4 :: R)) : News h₀ L h (a3 :: a4 :: t :: c :: a1 :: a2 :: R) := fun q hq => N q (by
  refine List.subset_def.mp ?_ hq
  repeat (first | refine List.cons_subset.mpr ⟨by repeat (first | exact .head _ | refine .tail _ ?_), ?_⟩ | refine List.append_subset.mpr ⟨?_, ?_⟩)
  all_goals first | exact List.nil_subset _ | exact fun _ h => by repeat (first | exact h | exact List.mem_append_left _ h | refine .tail _ ?_ | refine List.mem_append_right _ ?_))
theorem pm7 {h₀ h : Heap} {L : Addr} {a1 a2 a3 a4 c p t : Addr × Obj} {R : List (Addr × Obj)} (N : News h₀ L h (p :: a3 :: a4 :: t :: c :: a1 :: a2 :: R)) : News h₀ L h (a2 :: p :: a3 :: a4 :: t :: c :: a1 :: R) := fun q hq => N q (by
  refine List.subset_def.mp ?_ hq
  repeat (first | refine List.cons_subset.mpr ⟨by repeat (first | exact .head _ | refine .tail _ ?_), ?_⟩ | refine List.append_subset.mpr ⟨?_, ?_⟩)
  all_goals first | exact List.nil_subset _ | exact fun _ h => by repeat (first | exact h | exact List.mem_append_left _ h | refine .tail _ ?_ | refine List.mem_append_right _ ?_))
theorem pm8 {h₀ h : Heap} {L : Addr} {a1 a2 a3 a4 c l p t : Addr × Obj} {R : List (Addr × Obj)} (N : News h₀ L h (l :: a2 :: p :: a3 :: a4 :: t :: c :: a1 :: R)) : News h₀ L h (a2 :: l :: p :: a3 :: a4 :: t :: c :: a1 :: R) := fun q hq => N q (by
  refine List.subset_def.mp ?_ hq
  repeat (first | refine List.cons_subset.mpr ⟨by repeat (first | exact .head _ | refine .tail _ ?_), ?_⟩ | refine List.append_subset.mpr ⟨?_, ?_⟩)
  all_goals first | exact List.nil_subset _ | exact fun _ h => by repeat (first | exact h | exact List.mem_append_left _ h | refine .tail _ ?_ | refine List.mem_append_right _ ?_))
theorem pm9 {h₀ h : Heap} {L : Addr} {a1 a2 a3 a4 c l p t : Addr × Obj} {R : List (Addr × Obj)} (N : News h₀ L h (a2 :: l :: p :: a3 :: a4 :: t :: c :: a1 :: R)) : News h₀ L h (t :: c :: a1 :: a2 :: a3 :: a4 :: p :: l :: R) := fun q hq => N q (by
  refine List.subset_def.mp ?_ hq
  repeat (first | refine List.cons_subset.mpr ⟨by repeat (first | exact .head _ | refine .tail _ ?_), ?_⟩ | refine List.append_subset.mpr ⟨?_, ?_⟩)
  all_goals first | exact List.nil_subset _ | exact fun _ h => by repeat (first | exact h | exact List.mem_append_left _ h | refine .tail _ ?_ | refine List.mem_append_right _ ?_))
theorem lawRest : lawB.drop 1 = [lawS 1, lawS 2, lawS 3, lawS 4, lawS 5, lawS 6, lawS 7, lawS 8, lawS 9, lawS 10, lawS 11, lawS 12, lawS 13, lawS 14, lawS 15, lawS 16, lawS 17, lawS 18, lawS 19] := by kernel_rfl
theorem ne_off {R : List (Addr × Obj)} {d : Addr} (h : ∀ q ∈ R, q.1 < d) : ∀ q ∈ R, q.1 ≠ d := fun q hq => Nat.ne_of_lt (h q hq)
section
variable {w : World} {mean : ExcName → Option Value} {mg mb : PySem.Str → Option Value} {dp un : Nat} {gd : Option (List Code)} {a : Addr} {ccd : Value} {outer : List Env} {A₀ : Around} {base h₀ : Heap} {L : Addr} {m : PySem.Str → Option Value} {s : Shared} {Q : PySem.Flow → Shared → Prop} {E : Value → Shared → Prop}
theorem cellsNe {L d : Nat} {l : List Nat} (h : L + 1 + 1 + 1 + 1 < d) (t : AllNe d l) : AllNe d ((L + 1) :: (L + 1 + 1) :: (L + 1 + 1 + 1) :: (L + 1 + 1 + 1 + 1) :: l) := ⟨by lia, by lia, by lia, by lia, t⟩
theorem BytesL.len {ys : List Value} {xs : List (List Int)} (h : BytesL ys xs) : ys.length = xs.length := by
  induction h with
  | nil => rfl
  | cons _ _ ih => simp [ih]
set_option maxRecDepth 100000 in
set_option maxHeartbeats 8000000 in
theorem law_all {tp c : Addr} {vs : List Value} {ns : List Int} {ti : Tok} {n n' : Nat} {o1 o2 o3 o4 : Obj} {v2 v3 v4 : Option Value} {R : List (Addr × Obj)}
  (B : Below A₀ h₀ outer h₀) (F : Fr h₀ L s.heap m) (X : (Mine.hd.heap_39 w.params).In h₀) (N : News h₀ L s.heap ((tp, listOf #[.ref c, .int 0 ti] n) :: (c, listOf vs.toArray n') :: (L + 1, o1) :: (L + 1 + 1, o2) :: (L + 1 + 1 + 1, o3) :: (L + 1 + 1 + 1 + 1, o4) :: R)) (T : Top Mine.hd.view_39 (looseW Mine.hd.view_39 [Str.ofString "ShapeError", Str.ofString "VERSIONS"]) mean mg mb h₀)
  (hd : dp ≤ 310) (hu : un ≤ 1200) (hi : IntsAre vs ns) (hn1 : 1 ≤ ns.length) (hn2 : ns.length ≤ 60) (d1 : o1.data = .cell (some (.ref tp))) (htp : @LT.lt Nat _ (L + 1 + 1 + 1 + 1) tp) (htc : @LT.lt Nat _ (L + 1 + 1 + 1 + 1) c) (hct : @Ne Nat c tp) (off : LawOff L tp c R) (d2 : o2.data = .cell v2) (d3 : o3.data = .cell v3) (d4 : o4.data = .cell v4) (hE : PassesOwn (model PySem.Challenge.rw_pb0178_01.row.prog w) (ktrTop dp un gd lawN lawSc L a ccd (lawCl L) outer) (envX lawN lawSc L a ccd (lawCl L)) E)
  (hret : ∀ h' tk' m', Fr h₀ L h' m' → Q (.ret (.bool true)) { s with heap := h', toks := tk' }) :
  wpAny (model PySem.Challenge.rw_pb0178_01.row.prog w) (ktrTop dp un gd lawN lawSc L a ccd (lawCl L) outer) (execs (lawB.drop 1) (envX lawN lawSc L a ccd (lawCl L))) Q E s := by
  have offT := off.t
  rw [lawRest]
  -- fonts
  refine wpAny_execs_cons ?_
  refine st1 (v3 := none) (v4 := none) B F X N T hd hu hi hn1 hn2 d1 htp htc hct off d2 (Int.le_refl _) (by lia) ?_
  intro fl fvs fs R1 i1 t1 n1 o2' h1 tk1 hfo hf1 hf2 hok hi0 hi1 d2' off1 F1 N1
  have hfl := hfo.len
  -- order
  show wpAny _ _ _ _ _ { s with heap := h1, toks := tk1 }
  refine wpAny_execs_cons ?_
  refine st2 (v2 := none) (v3 := none) (v4 := none) B F1 X N1 T hd hu hi hn1 hn2 d1 htp htc hct off1 d2' (.head _) (by lia) (by lia) hi0 (by lia) ?_
  intro ol ovs ords i2 t2 n2 h2 tk2 hio hol1 hol2 hor hi2 hi2' off2 F2 N2
  have hlen := hio.length
  obtain ⟨R3, hR3⟩ : ∃ R3, R3 = (ol, PyProof.Rows.LCg.lst ovs) :: (fl, PyProof.Rows.LCg.lst fvs) :: (R1 ++ R) := ⟨_, rfl⟩
  rw [← hR3] at off2 N2
  have mol : (ol, PyProof.Rows.LCg.lst ovs) ∈ R3 := by rw [hR3]; exact .head _
  have mfl : (fl, PyProof.Rows.LCg.lst fvs) ∈ R3 := by rw [hR3]; exact .tail _ (.head _)
  have hfo3 : Fonts R3 fvs fs := hfo.mono fun p hp => by rw [hR3]; exact .tail _ (.tail _ hp)
  clear hR3 hfo
  obtain ⟨m2, e2, F2⟩ := fr_abs F2
  have or2 : m2 (Str.ofString "order") = some (.ref ol) := by rw [e2]; rfl
  -- pool
  show wpAny _ _ _ _ _ { s with heap := h2, toks := tk2 }
  refine wpAny_execs_cons ?_
  refine st3 (v2 := none) (v4 := none) B F2 X N2 T hd hu hi hn1 hn2 d1 htp htc hct off2 d3 hi2 (by lia) ?_
  intro p tb ps i3 t3 n3 o3' h3 tk3 hps hpl hi3 hi3' d3' F3 N3
  -- at
  show wpAny _ _ _ _ _ { s with heap := h3, toks := tk3 }
  refine wpAny_execs_cons ?_
  refine st4 B F3 X N3 T hd hu or2 (.tail _ (.tail _ (.tail _ (.tail _ (.tail _ (.tail _ mol)))))) (by rw [List.size_toArray]; lia) ?_
  intro t4 h4 tk4 F4 N4
  rw [List.size_toArray, hlen] at F4
  obtain ⟨bg, hbg⟩ : ∃ bg : Int, bg = 12 + 4 * (ords.length : Int) := ⟨_, rfl⟩
  rw [← hbg] at F4
  obtain ⟨m4, e4, F4⟩ := fr_abs F4
  have at4 : m4 (Str.ofString "at") = some (.int bg t4) := by rw [e4]; rfl
  have or4 : m4 (Str.ofString "order") = some (.ref ol) := by rw [e4]; exact or2
  -- is_ahead
  show wpAny _ _ _ _ _ { s with heap := h4, toks := tk4 }
  refine wpAny_execs_cons ?_
  refine st5 (v2 := none) (v3 := none) (v4 := none) B F4 X N4 T hd hu hi hn1 hn2 d1 htp htc hct off2 hi3 (by lia) ?_
  intro b t5 n5 h5 tk5 F5 N5
  obtain ⟨m5, e5, F5⟩ := fr_abs F5
  have at5 : m5 (Str.ofString "at") = some (.int bg t4) := by rw [e5]; exact at4
  have or5 : m5 (Str.ofString "order") = some (.ref ol) := by rw [e5]; exact or4
  have ah5 : m5 (Str.ofString "is_ahead") = some (.bool b) := by rw [e5]; rfl
  -- begun, octets, places
  show wpAny _ _ _ _ _ { s with heap := h5, toks := tk5 }
  refine wpAny_execs_cons ?_
  refine st6 (news := []) B F5 X (pm6 N5) T hd hu d3' d4 (ne_cons (Nat.ne_of_gt htp) (ne_cons (Nat.ne_of_gt htc) (ne_cons (Nat.ne_of_lt (by lia)) (ne_cons (Nat.ne_of_lt (by lia)) (off_cell off2 (by simp)))))) at5 ah5 ?_
  intro pd od o4' to6 h6 tk6 d4' hkv hsm lp3 lp4 lpR F6 N6
  obtain ⟨m6, e6, F6⟩ := fr_abs F6
  have bg6 : m6 (Str.ofString "begun") = some (.int bg t4) := by rw [e6]; rfl
  have oc6 : m6 (Str.ofString "octets") = some (.bytes (if b then p else #[]) to6) := by rw [e6]; rfl
  have or6 : m6 (Str.ofString "order") = some (.ref ol) := by rw [e6]; exact or5
  have ah6 : m6 (Str.ofString "is_ahead") = some (.bool b) := by rw [e6]; exact ah5
  have ptp : tp < pd := lpR _ (.head _)
  have pc : c < pd := lpR _ (.tail _ (.head _))
  have p3R : ∀ q ∈ R3, q.1 < pd := fun q hq => lpR q (.tail _ (.tail _ (.tail _ (.tail _ hq))))
  -- left
  show wpAny _ _ _ _ _ { s with heap := h6, toks := tk6 }
  refine wpAny_execs_cons ?_
  refine st7 B F6 X (pm7 N6) T hd hu d2' (.tail _ (.tail _ (.tail _ (.tail _ (.tail _ (.tail _ mfl)))))) (by lia) (by lia) ?_
  intro lf lvs nl h7 tk7 hli llt F7 N7
  rw [hfl] at hli
  obtain ⟨m7, e7, F7⟩ := fr_abs F7
  have lf7 : m7 (Str.ofString "left") = some (.ref lf) := by rw [e7]; rfl
  have bg7 : m7 (Str.ofString "begun") = some (.int bg t4) := by rw [e7]; exact bg6
  have oc7 : m7 (Str.ofString "octets") = some (.bytes (if b then p else #[]) to6) := by rw [e7]; exact oc6
  have or7 : m7 (Str.ofString "order") = some (.ref ol) := by rw [e7]; exact or6
  have ah7 : m7 (Str.ofString "is_ahead") = some (.bool b) := by rw [e7]; exact ah6
  have ll4 : @LT.lt Nat _ (L + 1 + 1 + 1 + 1) lf := llt (L + 1 + 1 + 1 + 1, _) (.tail _ (.tail _ (.tail _ (.head _))))
  have ltp : tp < lf := llt (tp, _) (.tail _ (.tail _ (.tail _ (.tail _ (.head _)))))
  have lc : c < lf := llt (c, _) (.tail _ (.tail _ (.tail _ (.tail _ (.tail _ (.head _))))))
  have lpd : pd < lf := llt (pd, _) (.tail _ (.head _))
  have l3R : ∀ q ∈ R3, q.1 < lf := fun q hq => llt q (.tail _ (.tail _ (.tail _ (.tail _ (.tail _ (.tail _ (.tail _ hq)))))))
  -- pool_at
  show wpAny _ _ _ _ _ { s with heap := h7, toks := tk7 }
  refine wpAny_execs_cons ?_
  refine st8 B F7 X (pm8 N7) T hd hu d2' (.tail _ (.tail _ (.tail _ (.tail _ (.tail _ (.tail _ (.tail _ mfl))))))) (hfo3.mono fun q hq => .tail _ (.tail _ (.tail _ (.tail _ (.tail _ (.tail _ (.tail _ hq))))))) (by lia) (by lia) ah7 bg7 (by lia) (by lia) ?_
  intro t8 h8 tk8 F8 N8
  obtain ⟨pa, hpa⟩ : ∃ pa : Int, pa = if b then bg else bg + (fs.map FSpec.blk).sum := ⟨_, rfl⟩
  rw [← hpa] at F8
  have hsum := sum_blk_le fs
  have hpa0 : 0 ≤ pa ∧ pa ≤ 2000 := by rw [hpa]; cases b <;> simp <;> lia
  obtain ⟨m8, e8, F8⟩ := fr_abs F8
  have pa8 : m8 (Str.ofString "pool_at") = some (.int pa t8) := by rw [e8]; rfl
  have lf8 : m8 (Str.ofString "left") = some (.ref lf) := by rw [e8]; exact lf7
  have bg8 : m8 (Str.ofString "begun") = some (.int bg t4) := by rw [e8]; exact bg7
  have oc8 : m8 (Str.ofString "octets") = some (.bytes (if b then p else #[]) to6) := by rw [e8]; exact oc7
  have or8 : m8 (Str.ofString "order") = some (.ref ol) := by rw [e8]; exact or7
  have ah8 : m8 (Str.ofString "is_ahead") = some (.bool b) := by rw [e8]; exact ah7
  have hpre : KBw.bInts (if b then p else #[]) = if b then ps else [] := by
    cases b
    · rfl
    · exact hps
  have hprel : (if b then ps else ([] : List Int)).length ≤ 40 := by cases b <;> simp [hpl]
  -- while
  show wpAny _ _ _ _ _ { s with heap := h8, toks := tk8 }
  refine wpAny_execs_cons ?_
  refine st9 B F8 X (pm9 N8) T hd hu hi hn1 hn2 d1 d2' d4' htp htc hct off2
    ⟨Nat.ne_of_gt ptp, Nat.ne_of_gt pc, cellsNe lp4 ⟨Nat.ne_of_lt lpd, trivial⟩⟩
    ⟨Nat.ne_of_gt ltp, Nat.ne_of_gt lc, cellsNe ll4 trivial⟩
    (ne_off p3R) (ne_off l3R) mfl hfo3 hok hf1 hf2 hli hkv (by lia) (by lia) lf8 pa8 bg8 oc8 hpre (by lia) hpa0.1 hpa0.2 (by lia) (by lia) hE ?_
  intro i9 t9 n9 od' kvs lv9 nl9 o9 to9 os9 m9 h9 tk9 hi9 hi9' hkv9 hL9 hos9 oc9 K9 F9 N9
  have or9 : m9 (Str.ofString "order") = some (.ref ol) := K9.order.trans or8
  have ah9 : m9 (Str.ofString "is_ahead") = some (.bool b) := K9.ahead.trans ah8
  have hos9l := hL9.le hf2
  -- octets
  show wpAny _ _ _ _ _ { s with heap := h9, toks := tk9 }
  refine wpAny_execs_cons ?_
  refine st10 B F9 X N9 T hd hu (.tail _ (.tail _ (.tail _ (.tail _ (.head _))))) d3' ah9 oc9 hos9 hps (by lia) (by lia) ?_
  intro oA toA hA tkA hoA FA NA
  obtain ⟨mA, eA, FA⟩ := fr_abs FA
  have ocA : mA (Str.ofString "octets") = some (.bytes oA toA) := by rw [eA]; rfl
  have orA : mA (Str.ofString "order") = some (.ref ol) := by rw [eA]; exact or9
  have offB : LawOff L tp c ((pd, od') :: (lf, listOf (List.toArray lv9) nl9) :: R3) := own_cons ⟨Nat.ne_of_gt ptp, Nat.ne_of_gt pc, cellsNe lp4 trivial⟩
    (own_cons ⟨Nat.ne_of_gt ltp, Nat.ne_of_gt lc, cellsNe ll4 trivial⟩ off2)
  -- head
  show wpAny _ _ _ _ _ { s with heap := hA, toks := tkA }
  refine wpAny_execs_cons ?_
  refine st11 (v2 := none) (v3 := none) (v4 := none) B FA X NA T hd hu hi hn1 hn2 d1 htp htc hct offB (by lia) (by lia) orA (.tail _ (.tail _ mol)) (by rw [List.size_toArray]; lia) ?_
  intro ve hb th tB nB hB tkB hve hhb FB NB
  rw [List.size_toArray, hlen] at hhb
  obtain ⟨mB, eB, FB⟩ := fr_abs FB
  have ocB : mB (Str.ofString "octets") = some (.bytes oA toA) := by rw [eB]; exact ocA
  have orB : mB (Str.ofString "order") = some (.ref ol) := by rw [eB]; exact orA
  have hdB : mB (Str.ofString "head") = some (.bytes hb th) := by rw [eB]; rfl
  rw [hfl] at hor
  obtain ⟨P, hP, hcol, hplo⟩ := col_of (pa := pa) (bg := bg) (b := b) hve hol1 hol2 hbg hpa hor hf2 hok hpl hL9 rfl rfl
  have hoAl : (if b then os9 else os9 ++ ps).length ≤ 300 := by cases b <;> simp [hpl] <;> lia
  -- data
  show wpAny _ _ _ _ _ { s with heap := hB, toks := tkB }
  refine wpAny_execs_cons ?_
  refine st12 (pl := plOf kvs) B FB X NB T hd hu (.tail _ (.tail _ (.tail _ (.tail _ (.tail _ (.tail _ (.tail _ (.tail _ mol)))))))) orB hio hol1 hol2 (.tail _ (.tail _ (.tail _ (.tail _ (.tail _ (.head _)))))) d4' (.tail _ (.tail _ (.tail _ (.tail _ (.tail _ (.tail _ (.head _))))))) hkv9 hplo hdB hhb (by simp [be4]) ocB hoA (by lia) ?_
  intro d td hC tkC hd' FC NC
  obtain ⟨mC, eC, FC⟩ := fr_abs FC
  have orC : mC (Str.ofString "order") = some (.ref ol) := by rw [eC]; exact orB
  have daC : mC (Str.ofString "data") = some (.bytes d td) := by rw [eC]; rfl
  obtain ⟨ks, hks⟩ : ∃ ks, ks = [116, 116, 99, 102] ++ be4 ve ++ be4 (ords.length : Int) ++ (ords.map fun z => be4 (plOf kvs z)).flatten ++ (if b then os9 else os9 ++ ps) := ⟨_, rfl⟩
  rw [← hks] at hd' hcol
  have hkl := hcol.len
  have hkl2 := hcol.klen
  -- due
  show wpAny _ _ _ _ _ { s with heap := hC, toks := tkC }
  refine wpAny_execs_cons ?_
  refine st13 B FC X NC T hd hu ?_
  intro dl hD tkD ldl FD ND
  obtain ⟨mD, eD, FD⟩ := fr_abs FD
  have orD : mD (Str.ofString "order") = some (.ref ol) := by rw [eD]; exact orC
  have daD : mD (Str.ofString "data") = some (.bytes d td) := by rw [eD]; exact daC
  have duD : mD (Str.ofString "due") = some (.ref dl) := by rw [eD]; rfl
  show wpAny _ _ _ _ _ { s with heap := hD, toks := tkD }
  refine wpAny_execs_cons ?_
  refine st14 B FD X ND T hd hu (.tail _ (.tail _ (.tail _ (.tail _ (.tail _ (.tail _ (.tail _ (.tail _ mol)))))))) orD hio hol2 hor (.tail _ (.tail _ (.tail _ (.head _)))) d2' (.tail _ (.tail _ (.tail _ (.tail _ (.tail _ (.tail _ (.tail _ (.tail _ mfl)))))))) (hfo3.mono fun q hq => .tail _ (.tail _ (.tail _ (.tail _ (.tail _ (.tail _ (.tail _ (.tail _ hq)))))))) hok hf2 (.tail _ (.tail _ (.tail _ (.tail _ (.head _))))) d3' hps hpl duD (ne_off ldl) hE ?_
  intro R14 dvs a14 hEE tkE hit offE FE NE
  obtain ⟨mE, eE, FE⟩ := fr_abs FE
  have orE : mE (Str.ofString "order") = some (.ref ol) := by rw [eE]; exact orD
  have daE : mE (Str.ofString "data") = some (.bytes d td) := by rw [eE]; exact daD
  have duE : mE (Str.ofString "due") = some (.ref dl) := by rw [eE]; exact duD
  -- read_collection
  show wpAny _ _ _ _ _ { s with heap := hEE, toks := tkE }
  refine wpAny_execs_cons ?_
  refine st15 B FE X NE T hd hu daE hd' (by lia) hcol.good duE (.head _) (hit.mono fun q hq => .tail _ hq) ?_
  intro hG tkG FG NG
  -- first
  show wpAny _ _ _ _ _ { s with heap := hG, toks := tkG }
  refine wpAny_execs_cons ?_
  refine st16 (v2 := none) (v3 := none) (v4 := none) (pl := plOf kvs) B FG X (drop_app NG) T hd hu hi hn1 hn2 d1 htp htc hct offB (by lia) (by lia) orE (.tail _ (.tail _ mol)) hio hol1 hol2 d4' (.head _) hkv9 (fun z hz => (hplo z hz).2.2) ?_
  intro r hr tf tH nH hH tkH FH NH
  obtain ⟨f, hf, hfk, hbad⟩ := hcol.hurt hr
  rw [hf] at FH
  obtain ⟨mH, eH, FH⟩ := fr_abs FH
  have orH : mH (Str.ofString "order") = some (.ref ol) := by rw [eH]; exact orE
  have daH : mH (Str.ofString "data") = some (.bytes d td) := by rw [eH]; exact daE
  have fiH : mH (Str.ofString "first") = some (.int (f : Int) tf) := by rw [eH]; rfl
  -- hurts
  show wpAny _ _ _ _ _ { s with heap := hH, toks := tkH }
  refine wpAny_execs_cons ?_
  refine st17 B FH X NH T hd hu daH hd' (by lia) (by lia) ?_
  intro hl ys nI hI tkI hyI FI NI
  obtain ⟨mI, eI, FI⟩ := fr_abs FI
  have orI : mI (Str.ofString "order") = some (.ref ol) := by rw [eI]; exact orH
  have daI : mI (Str.ofString "data") = some (.bytes d td) := by rw [eI]; exact daH
  have fiI : mI (Str.ofString "first") = some (.int (f : Int) tf) := by rw [eI]; exact fiH
  have huI : mI (Str.ofString "hurts") = some (.ref hl) := by rw [eI]; rfl
  show wpAny _ _ _ _ _ { s with heap := hI, toks := tkI }
  refine wpAny_execs_cons ?_
  refine st18 (nn := 0) B FI X NI T hd hu daI hd' (by lia) (by lia) fiI hfk orI (.tail _ (.tail _ (.tail _ (.tail _ (.tail _ (.tail _ (.tail _ (.tail _ (.tail _ mol))))))))) (by rw [List.size_toArray]; lia) (by rw [List.size_toArray]; lia) huI (.head _) hyI (by rw [hyI.len]; rfl) ?_
  intro hl2 ys2 nJ hJ tkJ hyJ FJ NJ
  rw [List.size_toArray, hlen] at hyJ
  obtain ⟨mJ, eJ, FJ⟩ := fr_abs FJ
  have huJ : mJ (Str.ofString "hurts") = some (.ref hl2) := by rw [eJ]; rfl
  -- the return
  show wpAny _ _ _ _ _ { s with heap := hJ, toks := tkJ }
  refine wpAny_execs_cons ?_
  refine st19 B FJ X NJ T hd hu huJ (.head _) hyJ (by rw [hyJ.len]; simp) (hcol.bads hbad hfk) ?_
  intro hK tkK FK
  exact hret _ _ _ FK
end
end
section
theorem part33 : True := by
  w_top off
  trivial
theorem pmf1 {h₀ h : Heap} {L : Addr} {t c x a1 a2 a3 a4 : Addr × Obj} (N : News h₀ L h [t, c, x, a4, a3, a2, a1]) : News h₀ L h (t :: c :: a1 :: a2 :: a3 :: a4 :: []) := fun q hq => N q (by
  refine List.subset_def.mp ?_ hq
  repeat (first | refine List.cons_subset.mpr ⟨by repeat (first | exact .head _ | refine .tail _ ?_), ?_⟩ | refine List.append_subset.mpr ⟨?_, ?_⟩)
  all_goals first | exact List.nil_subset _ | exact fun _ h => by repeat (first | exact h | exact List.mem_append_left _ h | refine .tail _ ?_ | refine List.mem_append_right _ ?_))
theorem pmf2 {h₀ h : Heap} {L : Addr} {t c x y a1 a2 a3 a4 : Addr × Obj} (N : News h₀ L h [t, c, x, y, a4, a3, a2, a1]) : News h₀ L h (t :: c :: a1 :: a2 :: a3 :: a4 :: []) := fun q hq => N q (by
  refine List.subset_def.mp ?_ hq
  repeat (first | refine List.cons_subset.mpr ⟨by repeat (first | exact .head _ | refine .tail _ ?_), ?_⟩ | refine List.append_subset.mpr ⟨?_, ?_⟩)
  all_goals first | exact List.nil_subset _ | exact fun _ h => by repeat (first | exact h | exact List.mem_append_left _ h | refine .tail _ ?_ | refine List.mem_append_right _ ?_))
set_option maxRecDepth 100000 in
set_option maxHeartbeats 8000000 in
theorem fin : PySem.Challenge.rw_pb0178_01.Holds := by
  w_on
  refine holds_law hd_said fun said => ?_
  refine holds_open (q := hd.view_39) (loose := hdLoose) (Xt := fun s => xlAt hd.view_39 hdLv s && recOk (RowW.records hdR) s) (XP := XL hd.view_39 hdLv) (Yf := Hook.obs (kHook hd.heap_39 hdAs hdAs_ok)) (Ya := Hook.val (kHook hd.heap_39 hdAs hdAs_ok)) (YP := Hook.says (kHook hd.heap_39 hdAs hdAs_ok)) (N := 4390)
    hd_left (Hook.of (kHook hd.heap_39 hdAs hdAs_ok)) (Hook.keeps (kHook hd.heap_39 hdAs hdAs_ok)) (fun s e => xl_of s (Bool.and_eq_true_iff.mp e).1) XL.keeps (by rfl) (by rfl) (by rfl) (fun s e => recFacts_of (Bool.and_eq_true_iff.mp e).2) (by rfl) (by first | assumption | decide +kernel) (by decide +kernel) ⟨rfl, rfl, rfl, rfl, rfl, by decide +kernel⟩ ?hw ?hc
  case hw => w_witness2
  k_go0
  (all_goals try k_fold)
  repeat' (first | ((fail_if_success (with_reducible show wpAny _ _ (execs (Stmt.Assign _ (Expr.ListComp _ _ _ _) _ :: _) _) _ _ _)); (first | (k_unfold; (try dsimp only)) | (k_end; wrow_close) | walk1 | (dsimp only; walk1))))
  · (rename Below _ _ _ _ => fB)
    (rename Frag.In _ _ => fX)
    (rename Fr _ _ _ _ => fF)
    (rename News _ _ _ _ => fN)
    (rename Top _ _ _ _ _ _ => fT)
    with_unfolding_all refine law_all (R := []) (v2 := ?av2) (v3 := ?av3) (v4 := ?av4) (ns := ?ans) fB fF fX (pmf1 fN) fT ?ahd ?ahu ?ahi ?ahn1 ?ahn2 ?ad1 ?ahtp ?ahtc ?ahct own_nil ?ad2 ?ad3 ?ad4 ?ahE ?ahret
    (case ahi => first | assumption | exact .cons _ _ .nil)
    (case ahd => decide)
    (case ahu => decide)
    (case ahn1 => first | lia | decide)
    (case ahn2 => first | lia | decide)
    (case ad1 => assumption)
    (case ahtp => (first | assumption | exact And.left (by assumption) | exact And.left (And.right (by assumption)) | exact And.left (And.right (And.right (by assumption))) | exact And.left (And.right (And.right (And.right (by assumption)))) | exact And.left (And.right (And.right (And.right (And.right (by assumption)))))))
    (case ahtc => (first | assumption | exact And.left (by assumption) | exact And.left (And.right (by assumption)) | exact And.left (And.right (And.right (by assumption))) | exact And.left (And.right (And.right (And.right (by assumption)))) | exact And.left (And.right (And.right (And.right (And.right (by assumption)))))))
    (case ahct => exact Nat.ne_of_lt (by (first | assumption | exact And.left (by assumption) | exact And.left (And.right (by assumption)) | exact And.left (And.right (And.right (by assumption))) | exact And.left (And.right (And.right (And.right (by assumption)))) | exact And.left (And.right (And.right (And.right (And.right (by assumption))))))))
    (case ad2 => assumption)
    (case ad3 => assumption)
    (case ad4 => assumption)
    (case ahE => passes_own)
    intro h9 tk9 m9 F9
    k_steps
  · (rename Below _ _ _ _ => fB)
    (rename Frag.In _ _ => fX)
    (rename Fr _ _ _ _ => fF)
    (rename News _ _ _ _ => fN)
    (rename Top _ _ _ _ _ _ => fT)
    with_unfolding_all refine law_all (R := []) (v2 := ?bv2) (v3 := ?bv3) (v4 := ?bv4) (ns := ?bns) fB fF fX (pmf2 fN) fT ?bhd ?bhu ?bhi ?bhn1 ?bhn2 ?bd1 ?bhtp ?bhtc ?bhct own_nil ?bd2 ?bd3 ?bd4 ?bhE ?bhret
    (case bhi => first | assumption | exact .cons _ _ .nil)
    (case bhd => decide)
    (case bhu => decide)
    (case bhn1 => first | lia | decide)
    (case bhn2 => first | lia | decide)
    (case bd1 => assumption)
    (case bhtp => (first | assumption | exact And.left (by assumption) | exact And.left (And.right (by assumption)) | exact And.left (And.right (And.right (by assumption))) | exact And.left (And.right (And.right (And.right (by assumption)))) | exact And.left (And.right (And.right (And.right (And.right (by assumption)))))))
    (case bhtc => (first | assumption | exact And.left (by assumption) | exact And.left (And.right (by assumption)) | exact And.left (And.right (And.right (by assumption))) | exact And.left (And.right (And.right (And.right (by assumption)))) | exact And.left (And.right (And.right (And.right (And.right (by assumption)))))))
    (case bhct => exact Nat.ne_of_lt (by (first | assumption | exact And.left (by assumption) | exact And.left (And.right (by assumption)) | exact And.left (And.right (And.right (by assumption))) | exact And.left (And.right (And.right (And.right (by assumption)))) | exact And.left (And.right (And.right (And.right (And.right (by assumption))))))))
    (case bd2 => assumption)
    (case bd3 => assumption)
    (case bd4 => assumption)
    (case bhE => passes_own)
    intro h9 tk9 m9 F9
    k_steps
end
end Mine
end
theorem PySem.Challenge.cw_pb0178_01_holds : PySem.Challenge.rw_pb0178_01.Holds := by
  exact Mine.fin
