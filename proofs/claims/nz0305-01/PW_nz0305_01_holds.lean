import PyProof.Rows.All
import Wide.All
import OpenK.AllK
import Wide.FinOn
import Lean
import PySem.Challenge.RW_nz0305_01
open PySem PySem.W PyProof.Rows
set_option Elab.async false
set_option maxRecDepth 100000
set_option maxHeartbeats 8000000
namespace Mine
/-- the text's statements, but for those that name the module -/
def viewBody (b : List PySem.Stmt) : List PySem.Stmt := (b.drop 1).take 2 ++ (b.drop 4).take 2 ++ (b.drop 7).take 14 ++ (b.drop 22).take 28 ++ b.drop 51
def viewM : Program := { PySem.Challenge.pw_nz0305_01 with main := { PySem.Challenge.pw_nz0305_01.main with body := viewBody PySem.Challenge.pw_nz0305_01.main.body } }
/-- the addresses that are looked at -/
def seenAt : List Addr := [2, 3, 15, 22, 23, 25, 26, 28, 29, 30, 32, 33, 35, 36, 37, 38, 39, 40, 43, 50, 51, 52, 55, 57, 58, 60, 61, 62, 65, 66, 67, 68, 70, 71, 73, 74, 75, 77, 78, 80, 81, 82, 84, 85, 87, 88, 89, 91, 92, 94, 95, 96, 98, 99, 101, 102, 103, 105, 106, 108, 109, 110, 112, 113, 115, 116, 117, 119, 120, 122, 123, 124, 126, 127, 129, 130, 131, 134, 135, 136, 137, 145, 147, 148, 150, 151, 152, 154, 155, 157, 158, 159, 160, 161, 162, 163, 166, 168, 169, 171, 172, 173, 175, 176, 178, 179, 180, 182, 183, 185, 186, 187, 189, 190, 192, 193, 194, 196, 197, 199, 200, 201, 203, 204, 206, 207, 208, 210, 211, 213, 214, 215, 217, 218, 220, 221, 222, 225, 226, 227, 230, 231, 232, 234, 235, 237, 238, 239, 241, 242, 244, 245, 246, 249, 250, 251, 254, 255, 256, 258, 259, 261, 262, 263, 266, 267, 275, 277, 278, 280, 281, 282, 284, 285, 287, 288, 289, 292, 293, 294, 296, 297, 299, 300, 301, 303, 304, 306, 307, 308, 310, 311, 313, 314, 315, 316, 317, 318, 319, 322, 324, 325, 327, 328, 329, 331, 332, 334, 335, 336, 338, 339, 341, 342, 343, 345, 346, 348, 349, 350, 353, 354, 355, 358, 359, 360, 362, 363, 365, 366, 367, 368, 369, 370, 371, 372, 373, 374, 375, 376, 377, 380, 381]
/-- a statement of the text, by its place; its parts, where it is a def -/
def topAt (i : Nat) : PySem.Stmt := PySem.Challenge.pw_nz0305_01.main.body.getD i (.Pass ⟨0, 0, 0, 0⟩)
def inAt (i j : Nat) : PySem.Stmt := match topAt i with
  | .ClassDef _ _ _ b _ _ _ _ _ _ _ => b.getD j (.Pass ⟨0, 0, 0, 0⟩)
  | s => s
def sArgs : PySem.Stmt → Arguments
  | .FunctionDef _ a _ _ _ _ _ _ _ _ => a
  | _ => ⟨[], [], none, [], [], none, []⟩
def sBody : PySem.Stmt → FuncBody
  | .FunctionDef _ _ b _ _ _ _ _ _ _ => .stmts b
  | _ => .stmts []
def sScope : PySem.Stmt → Scope
  | .FunctionDef _ _ _ _ _ _ c _ _ _ => c
  | _ => default
noncomputable def endO0 (P : Params) : List Obj := [
Obj.mk (Value.type "dict") none (Data.dict #[DictEntry.mk (PyData.keyHash P (Str.ofString "__name__")) (Value.str (Str.ofString "__name__") 1) (Value.str (Str.ofString "builtins") 160), DictEntry.mk (PyData.keyHash P (Str.ofString "__doc__")) (Value.str (Str.ofString "__doc__") 2) (Value.builtin "builtins.__doc__:str#opaque"), DictEntry.mk (PyData.keyHash P (Str.ofString "__package__")) (Value.str (Str.ofString "__package__") 3) (Value.builtin "builtins.__package__:str#opaque"), DictEntry.mk (PyData.keyHash P (Str.ofString "__loader__")) (Value.str (Str.ofString "__loader__") 4) (Value.builtin "builtins.__loader__:shared#opaque"), DictEntry.mk (PyData.keyHash P (Str.ofString "__spec__")) (Value.str (Str.ofString "__spec__") 5) (Value.builtin "builtins.__spec__#opaque"), DictEntry.mk (PyData.keyHash P (Str.ofString "__build_class__")) (Value.str (Str.ofString "__build_class__") 6) (Value.builtin "__build_class__"), DictEntry.mk (PyData.keyHash P (Str.ofString "__import__")) (Value.str (Str.ofString "__import__") 7) (Value.builtin "__import__"), DictEntry.mk (PyData.keyHash P (Str.ofString "abs")) (Value.str (Str.ofString "abs") 8) (Value.builtin "abs"), DictEntry.mk (PyData.keyHash P (Str.ofString "all")) (Value.str (Str.ofString "all") 9) (Value.builtin "all"), DictEntry.mk (PyData.keyHash P (Str.ofString "any")) (Value.str (Str.ofString "any") 10) (Value.builtin "any"), DictEntry.mk (PyData.keyHash P (Str.ofString "ascii")) (Value.str (Str.ofString "ascii") 11) (Value.builtin "ascii"), DictEntry.mk (PyData.keyHash P (Str.ofString "bin")) (Value.str (Str.ofString "bin") 12) (Value.builtin "bin"), DictEntry.mk (PyData.keyHash P (Str.ofString "breakpoint")) (Value.str (Str.ofString "breakpoint") 13) (Value.builtin "breakpoint"), DictEntry.mk (PyData.keyHash P (Str.ofString "callable")) (Value.str (Str.ofString "callable") 14) (Value.builtin "callable"), DictEntry.mk (PyData.keyHash P (Str.ofString "chr")) (Value.str (Str.ofString "chr") 15) (Value.builtin "chr"), DictEntry.mk (PyData.keyHash P (Str.ofString "compile")) (Value.str (Str.ofString "compile") 16) (Value.builtin "compile"), DictEntry.mk (PyData.keyHash P (Str.ofString "delattr")) (Value.str (Str.ofString "delattr") 17) (Value.builtin "delattr"), DictEntry.mk (PyData.keyHash P (Str.ofString "dir")) (Value.str (Str.ofString "dir") 18) (Value.builtin "dir"), DictEntry.mk (PyData.keyHash P (Str.ofString "divmod")) (Value.str (Str.ofString "divmod") 19) (Value.builtin "divmod"), DictEntry.mk (PyData.keyHash P (Str.ofString "eval")) (Value.str (Str.ofString "eval") 20) (Value.builtin "eval"), DictEntry.mk (PyData.keyHash P (Str.ofString "exec")) (Value.str (Str.ofString "exec") 21) (Value.builtin "exec"), DictEntry.mk (PyData.keyHash P (Str.ofString "format")) (Value.str (Str.ofString "format") 22) (Value.builtin "format"), DictEntry.mk (PyData.keyHash P (Str.ofString "getattr")) (Value.str (Str.ofString "getattr") 23) (Value.builtin "getattr"), DictEntry.mk (PyData.keyHash P (Str.ofString "globals")) (Value.str (Str.ofString "globals") 24) (Value.builtin "globals"), DictEntry.mk (PyData.keyHash P (Str.ofString "hasattr")) (Value.str (Str.ofString "hasattr") 25) (Value.builtin "hasattr"), DictEntry.mk (PyData.keyHash P (Str.ofString "hash")) (Value.str (Str.ofString "hash") 26) (Value.builtin "hash"), DictEntry.mk (PyData.keyHash P (Str.ofString "hex")) (Value.str (Str.ofString "hex") 27) (Value.builtin "hex"), DictEntry.mk (PyData.keyHash P (Str.ofString "id")) (Value.str (Str.ofString "id") 28) (Value.builtin "id"), DictEntry.mk (PyData.keyHash P (Str.ofString "input")) (Value.str (Str.ofString "input") 29) (Value.builtin "input"), DictEntry.mk (PyData.keyHash P (Str.ofString "isinstance")) (Value.str (Str.ofString "isinstance") 30) (Value.builtin "isinstance"), DictEntry.mk (PyData.keyHash P (Str.ofString "issubclass")) (Value.str (Str.ofString "issubclass") 31) (Value.builtin "issubclass"), DictEntry.mk (PyData.keyHash P (Str.ofString "iter")) (Value.str (Str.ofString "iter") 32) (Value.builtin "iter"), DictEntry.mk (PyData.keyHash P (Str.ofString "aiter")) (Value.str (Str.ofString "aiter") 33) (Value.builtin "aiter"), DictEntry.mk (PyData.keyHash P (Str.ofString "len")) (Value.str (Str.ofString "len") 34) (Value.builtin "len"), DictEntry.mk (PyData.keyHash P (Str.ofString "locals")) (Value.str (Str.ofString "locals") 35) (Value.builtin "locals"), DictEntry.mk (PyData.keyHash P (Str.ofString "max")) (Value.str (Str.ofString "max") 36) (Value.builtin "max"), DictEntry.mk (PyData.keyHash P (Str.ofString "min")) (Value.str (Str.ofString "min") 37) (Value.builtin "min"), DictEntry.mk (PyData.keyHash P (Str.ofString "next")) (Value.str (Str.ofString "next") 38) (Value.builtin "next"), DictEntry.mk (PyData.keyHash P (Str.ofString "anext")) (Value.str (Str.ofString "anext") 39) (Value.builtin "anext"), DictEntry.mk (PyData.keyHash P (Str.ofString "oct")) (Value.str (Str.ofString "oct") 40) (Value.builtin "oct"), DictEntry.mk (PyData.keyHash P (Str.ofString "ord")) (Value.str (Str.ofString "ord") 41) (Value.builtin "ord"), DictEntry.mk (PyData.keyHash P (Str.ofString "pow")) (Value.str (Str.ofString "pow") 42) (Value.builtin "pow"), DictEntry.mk (PyData.keyHash P (Str.ofString "print")) (Value.str (Str.ofString "print") 43) (Value.builtin "print"), DictEntry.mk (PyData.keyHash P (Str.ofString "repr")) (Value.str (Str.ofString "repr") 44) (Value.builtin "repr"), DictEntry.mk (PyData.keyHash P (Str.ofString "round")) (Value.str (Str.ofString "round") 45) (Value.builtin "round"), DictEntry.mk (PyData.keyHash P (Str.ofString "setattr")) (Value.str (Str.ofString "setattr") 46) (Value.builtin "setattr"), DictEntry.mk (PyData.keyHash P (Str.ofString "sorted")) (Value.str (Str.ofString "sorted") 47) (Value.builtin "sorted"), DictEntry.mk (PyData.keyHash P (Str.ofString "sum")) (Value.str (Str.ofString "sum") 48) (Value.builtin "sum"), DictEntry.mk (PyData.keyHash P (Str.ofString "vars")) (Value.str (Str.ofString "vars") 49) (Value.builtin "vars"), DictEntry.mk (PyData.keyHash P (Str.ofString "None")) (Value.str (Str.ofString "None") 50) Value.none, DictEntry.mk (PyData.keyHash P (Str.ofString "Ellipsis")) (Value.str (Str.ofString "Ellipsis") 51) Value.ellipsis, DictEntry.mk (PyData.keyHash P (Str.ofString "NotImplemented")) (Value.str (Str.ofString "NotImplemented") 52) Value.notImplemented, DictEntry.mk (PyData.keyHash P (Str.ofString "False")) (Value.str (Str.ofString "False") 53) (Value.bool false), DictEntry.mk (PyData.keyHash P (Str.ofString "True")) (Value.str (Str.ofString "True") 54) (Value.bool true), DictEntry.mk (PyData.keyHash P (Str.ofString "bool")) (Value.str (Str.ofString "bool") 55) (Value.type "bool"), DictEntry.mk (PyData.keyHash P (Str.ofString "memoryview")) (Value.str (Str.ofString "memoryview") 56) (Value.type "memoryview"), DictEntry.mk (PyData.keyHash P (Str.ofString "bytearray")) (Value.str (Str.ofString "bytearray") 57) (Value.type "bytearray"), DictEntry.mk (PyData.keyHash P (Str.ofString "bytes")) (Value.str (Str.ofString "bytes") 58) (Value.type "bytes"), DictEntry.mk (PyData.keyHash P (Str.ofString "classmethod")) (Value.str (Str.ofString "classmethod") 59) (Value.type "classmethod"), DictEntry.mk (PyData.keyHash P (Str.ofString "complex")) (Value.str (Str.ofString "complex") 60) (Value.type "complex"), DictEntry.mk (PyData.keyHash P (Str.ofString "dict")) (Value.str (Str.ofString "dict") 61) (Value.type "dict"), DictEntry.mk (PyData.keyHash P (Str.ofString "enumerate")) (Value.str (Str.ofString "enumerate") 62) (Value.type "enumerate"), DictEntry.mk (PyData.keyHash P (Str.ofString "filter")) (Value.str (Str.ofString "filter") 63) (Value.type "filter"), DictEntry.mk (PyData.keyHash P (Str.ofString "float")) (Value.str (Str.ofString "float") 64) (Value.type "float"), DictEntry.mk (PyData.keyHash P (Str.ofString "frozenset")) (Value.str (Str.ofString "frozenset") 65) (Value.type "frozenset"), DictEntry.mk (PyData.keyHash P (Str.ofString "property")) (Value.str (Str.ofString "property") 66) (Value.type "property"), DictEntry.mk (PyData.keyHash P (Str.ofString "int")) (Value.str (Str.ofString "int") 67) (Value.type "int"), DictEntry.mk (PyData.keyHash P (Str.ofString "list")) (Value.str (Str.ofString "list") 68) (Value.type "list"), DictEntry.mk (PyData.keyHash P (Str.ofString "map")) (Value.str (Str.ofString "map") 69) (Value.type "map"), DictEntry.mk (PyData.keyHash P (Str.ofString "object")) (Value.str (Str.ofString "object") 70) (Value.type "object"), DictEntry.mk (PyData.keyHash P (Str.ofString "range")) (Value.str (Str.ofString "range") 71) (Value.type "range"), DictEntry.mk (PyData.keyHash P (Str.ofString "reversed")) (Value.str (Str.ofString "reversed") 72) (Value.type "reversed"), DictEntry.mk (PyData.keyHash P (Str.ofString "set")) (Value.str (Str.ofString "set") 73) (Value.type "set"), DictEntry.mk (PyData.keyHash P (Str.ofString "slice")) (Value.str (Str.ofString "slice") 74) (Value.type "slice"), DictEntry.mk (PyData.keyHash P (Str.ofString "staticmethod")) (Value.str (Str.ofString "staticmethod") 75) (Value.type "staticmethod"), DictEntry.mk (PyData.keyHash P (Str.ofString "str")) (Value.str (Str.ofString "str") 76) (Value.type "str"), DictEntry.mk (PyData.keyHash P (Str.ofString "super")) (Value.str (Str.ofString "super") 77) (Value.type "super"), DictEntry.mk (PyData.keyHash P (Str.ofString "tuple")) (Value.str (Str.ofString "tuple") 78) (Value.type "tuple"), DictEntry.mk (PyData.keyHash P (Str.ofString "type")) (Value.str (Str.ofString "type") 79) (Value.type "type"), DictEntry.mk (PyData.keyHash P (Str.ofString "zip")) (Value.str (Str.ofString "zip") 80) (Value.type "zip"), DictEntry.mk (PyData.keyHash P (Str.ofString "__debug__")) (Value.str (Str.ofString "__debug__") 81) (Value.bool true), DictEntry.mk (PyData.keyHash P (Str.ofString "BaseException")) (Value.str (Str.ofString "BaseException") 82) (Value.type "BaseException"), DictEntry.mk (PyData.keyHash P (Str.ofString "BaseExceptionGroup")) (Value.str (Str.ofString "BaseExceptionGroup") 83) (Value.type "BaseExceptionGroup"), DictEntry.mk (PyData.keyHash P (Str.ofString "Exception")) (Value.str (Str.ofString "Exception") 84) (Value.type "Exception"), DictEntry.mk (PyData.keyHash P (Str.ofString "GeneratorExit")) (Value.str (Str.ofString "GeneratorExit") 85) (Value.type "GeneratorExit"), DictEntry.mk (PyData.keyHash P (Str.ofString "KeyboardInterrupt")) (Value.str (Str.ofString "KeyboardInterrupt") 86) (Value.type "KeyboardInterrupt"), DictEntry.mk (PyData.keyHash P (Str.ofString "SystemExit")) (Value.str (Str.ofString "SystemExit") 87) (Value.type "SystemExit"), DictEntry.mk (PyData.keyHash P (Str.ofString "ArithmeticError")) (Value.str (Str.ofString "ArithmeticError") 88) (Value.type "ArithmeticError"), DictEntry.mk (PyData.keyHash P (Str.ofString "AssertionError")) (Value.str (Str.ofString "AssertionError") 89) (Value.type "AssertionError"), DictEntry.mk (PyData.keyHash P (Str.ofString "AttributeError")) (Value.str (Str.ofString "AttributeError") 90) (Value.type "AttributeError"), DictEntry.mk (PyData.keyHash P (Str.ofString "BufferError")) (Value.str (Str.ofString "BufferError") 91) (Value.type "BufferError"), DictEntry.mk (PyData.keyHash P (Str.ofString "EOFError")) (Value.str (Str.ofString "EOFError") 92) (Value.type "EOFError"), DictEntry.mk (PyData.keyHash P (Str.ofString "ImportError")) (Value.str (Str.ofString "ImportError") 93) (Value.type "ImportError"), DictEntry.mk (PyData.keyHash P (Str.ofString "LookupError")) (Value.str (Str.ofString "LookupError") 94) (Value.type "LookupError"), DictEntry.mk (PyData.keyHash P (Str.ofString "MemoryError")) (Value.str (Str.ofString "MemoryError") 95) (Value.type "MemoryError"), DictEntry.mk (PyData.keyHash P (Str.ofString "NameError")) (Value.str (Str.ofString "NameError") 96) (Value.type "NameError"), DictEntry.mk (PyData.keyHash P (Str.ofString "OSError")) (Value.str (Str.ofString "OSError") 97) (Value.type "OSError"), DictEntry.mk (PyData.keyHash P (Str.ofString "ReferenceError")) (Value.str (Str.ofString "ReferenceError") 98) (Value.type "ReferenceError"), DictEntry.mk (PyData.keyHash P (Str.ofString "RuntimeError")) (Value.str (Str.ofString "RuntimeError") 99) (Value.type "RuntimeError"), DictEntry.mk (PyData.keyHash P (Str.ofString "StopAsyncIteration")) (Value.str (Str.ofString "StopAsyncIteration") 100) (Value.type "StopAsyncIteration"), DictEntry.mk (PyData.keyHash P (Str.ofString "StopIteration")) (Value.str (Str.ofString "StopIteration") 101) (Value.type "StopIteration"), DictEntry.mk (PyData.keyHash P (Str.ofString "SyntaxError")) (Value.str (Str.ofString "SyntaxError") 102) (Value.type "SyntaxError"), DictEntry.mk (PyData.keyHash P (Str.ofString "SystemError")) (Value.str (Str.ofString "SystemError") 103) (Value.type "SystemError"), DictEntry.mk (PyData.keyHash P (Str.ofString "TypeError")) (Value.str (Str.ofString "TypeError") 104) (Value.type "TypeError"), DictEntry.mk (PyData.keyHash P (Str.ofString "ValueError")) (Value.str (Str.ofString "ValueError") 105) (Value.type "ValueError"), DictEntry.mk (PyData.keyHash P (Str.ofString "Warning")) (Value.str (Str.ofString "Warning") 106) (Value.type "Warning"), DictEntry.mk (PyData.keyHash P (Str.ofString "FloatingPointError")) (Value.str (Str.ofString "FloatingPointError") 107) (Value.type "FloatingPointError"), DictEntry.mk (PyData.keyHash P (Str.ofString "OverflowError")) (Value.str (Str.ofString "OverflowError") 108) (Value.type "OverflowError"), DictEntry.mk (PyData.keyHash P (Str.ofString "ZeroDivisionError")) (Value.str (Str.ofString "ZeroDivisionError") 109) (Value.type "ZeroDivisionError"), DictEntry.mk (PyData.keyHash P (Str.ofString "BytesWarning")) (Value.str (Str.ofString "BytesWarning") 110) (Value.type "BytesWarning"), DictEntry.mk (PyData.keyHash P (Str.ofString "DeprecationWarning")) (Value.str (Str.ofString "DeprecationWarning") 111) (Value.type "DeprecationWarning"), DictEntry.mk (PyData.keyHash P (Str.ofString "EncodingWarning")) (Value.str (Str.ofString "EncodingWarning") 112) (Value.type "EncodingWarning"), DictEntry.mk (PyData.keyHash P (Str.ofString "FutureWarning")) (Value.str (Str.ofString "FutureWarning") 113) (Value.type "FutureWarning"), DictEntry.mk (PyData.keyHash P (Str.ofString "ImportWarning")) (Value.str (Str.ofString "ImportWarning") 114) (Value.type "ImportWarning"), DictEntry.mk (PyData.keyHash P (Str.ofString "PendingDeprecationWarning")) (Value.str (Str.ofString "PendingDeprecationWarning") 115) (Value.type "PendingDeprecationWarning"), DictEntry.mk (PyData.keyHash P (Str.ofString "ResourceWarning")) (Value.str (Str.ofString "ResourceWarning") 116) (Value.type "ResourceWarning"), DictEntry.mk (PyData.keyHash P (Str.ofString "RuntimeWarning")) (Value.str (Str.ofString "RuntimeWarning") 117) (Value.type "RuntimeWarning"), DictEntry.mk (PyData.keyHash P (Str.ofString "SyntaxWarning")) (Value.str (Str.ofString "SyntaxWarning") 118) (Value.type "SyntaxWarning"), DictEntry.mk (PyData.keyHash P (Str.ofString "UnicodeWarning")) (Value.str (Str.ofString "UnicodeWarning") 119) (Value.type "UnicodeWarning"), DictEntry.mk (PyData.keyHash P (Str.ofString "UserWarning")) (Value.str (Str.ofString "UserWarning") 120) (Value.type "UserWarning"), DictEntry.mk (PyData.keyHash P (Str.ofString "BlockingIOError")) (Value.str (Str.ofString "BlockingIOError") 121) (Value.type "BlockingIOError"), DictEntry.mk (PyData.keyHash P (Str.ofString "ChildProcessError")) (Value.str (Str.ofString "ChildProcessError") 122) (Value.type "ChildProcessError"), DictEntry.mk (PyData.keyHash P (Str.ofString "ConnectionError")) (Value.str (Str.ofString "ConnectionError") 123) (Value.type "ConnectionError"), DictEntry.mk (PyData.keyHash P (Str.ofString "FileExistsError")) (Value.str (Str.ofString "FileExistsError") 124) (Value.type "FileExistsError"), DictEntry.mk (PyData.keyHash P (Str.ofString "FileNotFoundError")) (Value.str (Str.ofString "FileNotFoundError") 125) (Value.type "FileNotFoundError"), DictEntry.mk (PyData.keyHash P (Str.ofString "InterruptedError")) (Value.str (Str.ofString "InterruptedError") 126) (Value.type "InterruptedError"), DictEntry.mk (PyData.keyHash P (Str.ofString "IsADirectoryError")) (Value.str (Str.ofString "IsADirectoryError") 127) (Value.type "IsADirectoryError"), DictEntry.mk (PyData.keyHash P (Str.ofString "NotADirectoryError")) (Value.str (Str.ofString "NotADirectoryError") 128) (Value.type "NotADirectoryError"), DictEntry.mk (PyData.keyHash P (Str.ofString "PermissionError")) (Value.str (Str.ofString "PermissionError") 129) (Value.type "PermissionError"), DictEntry.mk (PyData.keyHash P (Str.ofString "ProcessLookupError")) (Value.str (Str.ofString "ProcessLookupError") 130) (Value.type "ProcessLookupError"), DictEntry.mk (PyData.keyHash P (Str.ofString "TimeoutError")) (Value.str (Str.ofString "TimeoutError") 131) (Value.type "TimeoutError"), DictEntry.mk (PyData.keyHash P (Str.ofString "IndentationError")) (Value.str (Str.ofString "IndentationError") 132) (Value.type "IndentationError"), DictEntry.mk (PyData.keyHash P (Str.ofString "_IncompleteInputError")) (Value.str (Str.ofString "_IncompleteInputError") 133) (Value.type "_IncompleteInputError"), DictEntry.mk (PyData.keyHash P (Str.ofString "IndexError")) (Value.str (Str.ofString "IndexError") 134) (Value.type "IndexError"), DictEntry.mk (PyData.keyHash P (Str.ofString "KeyError")) (Value.str (Str.ofString "KeyError") 135) (Value.type "KeyError"), DictEntry.mk (PyData.keyHash P (Str.ofString "ModuleNotFoundError")) (Value.str (Str.ofString "ModuleNotFoundError") 136) (Value.type "ModuleNotFoundError"), DictEntry.mk (PyData.keyHash P (Str.ofString "NotImplementedError")) (Value.str (Str.ofString "NotImplementedError") 137) (Value.type "NotImplementedError"), DictEntry.mk (PyData.keyHash P (Str.ofString "PythonFinalizationError")) (Value.str (Str.ofString "PythonFinalizationError") 138) (Value.type "PythonFinalizationError"), DictEntry.mk (PyData.keyHash P (Str.ofString "RecursionError")) (Value.str (Str.ofString "RecursionError") 139) (Value.type "RecursionError"), DictEntry.mk (PyData.keyHash P (Str.ofString "UnboundLocalError")) (Value.str (Str.ofString "UnboundLocalError") 140) (Value.type "UnboundLocalError"), DictEntry.mk (PyData.keyHash P (Str.ofString "UnicodeError")) (Value.str (Str.ofString "UnicodeError") 141) (Value.type "UnicodeError"), DictEntry.mk (PyData.keyHash P (Str.ofString "BrokenPipeError")) (Value.str (Str.ofString "BrokenPipeError") 142) (Value.type "BrokenPipeError"), DictEntry.mk (PyData.keyHash P (Str.ofString "ConnectionAbortedError")) (Value.str (Str.ofString "ConnectionAbortedError") 143) (Value.type "ConnectionAbortedError"), DictEntry.mk (PyData.keyHash P (Str.ofString "ConnectionRefusedError")) (Value.str (Str.ofString "ConnectionRefusedError") 144) (Value.type "ConnectionRefusedError"), DictEntry.mk (PyData.keyHash P (Str.ofString "ConnectionResetError")) (Value.str (Str.ofString "ConnectionResetError") 145) (Value.type "ConnectionResetError"), DictEntry.mk (PyData.keyHash P (Str.ofString "TabError")) (Value.str (Str.ofString "TabError") 146) (Value.type "TabError"), DictEntry.mk (PyData.keyHash P (Str.ofString "UnicodeDecodeError")) (Value.str (Str.ofString "UnicodeDecodeError") 147) (Value.type "UnicodeDecodeError"), DictEntry.mk (PyData.keyHash P (Str.ofString "UnicodeEncodeError")) (Value.str (Str.ofString "UnicodeEncodeError") 148) (Value.type "UnicodeEncodeError"), DictEntry.mk (PyData.keyHash P (Str.ofString "UnicodeTranslateError")) (Value.str (Str.ofString "UnicodeTranslateError") 149) (Value.type "UnicodeTranslateError"), DictEntry.mk (PyData.keyHash P (Str.ofString "ExceptionGroup")) (Value.str (Str.ofString "ExceptionGroup") 150) (Value.type "ExceptionGroup"), DictEntry.mk (PyData.keyHash P (Str.ofString "EnvironmentError")) (Value.str (Str.ofString "EnvironmentError") 151) (Value.type "OSError"), DictEntry.mk (PyData.keyHash P (Str.ofString "IOError")) (Value.str (Str.ofString "IOError") 152) (Value.type "OSError"), DictEntry.mk (PyData.keyHash P (Str.ofString "open")) (Value.str (Str.ofString "open") 153) (Value.builtin "open"), DictEntry.mk (PyData.keyHash P (Str.ofString "quit")) (Value.str (Str.ofString "quit") 154) (Value.builtin "builtins.quit#opaque"), DictEntry.mk (PyData.keyHash P (Str.ofString "exit")) (Value.str (Str.ofString "exit") 155) (Value.builtin "builtins.exit#opaque"), DictEntry.mk (PyData.keyHash P (Str.ofString "copyright")) (Value.str (Str.ofString "copyright") 156) (Value.builtin "builtins.copyright#opaque"), DictEntry.mk (PyData.keyHash P (Str.ofString "credits")) (Value.str (Str.ofString "credits") 157) (Value.builtin "builtins.credits#opaque"), DictEntry.mk (PyData.keyHash P (Str.ofString "license")) (Value.str (Str.ofString "license") 158) (Value.builtin "builtins.license#opaque"), DictEntry.mk (PyData.keyHash P (Str.ofString "help")) (Value.str (Str.ofString "help") 159) (Value.builtin "builtins.help#opaque")] 159) #[],
Obj.mk (Value.type "dict") none (Data.dict #[DictEntry.mk (PyData.keyHash P (Str.ofString "builtins")) (Value.str (Str.ofString "builtins") 162) (Value.ref 4), DictEntry.mk (PyData.keyHash P (Str.ofString "__main__")) (Value.str (Str.ofString "__main__") 163) (Value.ref 5)] 2) #[],
Obj.mk Value.none none (Data.dict #[DictEntry.mk (PyData.keyHash P (Str.ofString "type.__subclasses__.Exception.0")) (Value.str (Str.ofString "type.__subclasses__.Exception.0") 225) (Value.int 39 0), DictEntry.mk (PyData.keyHash P (Str.ofString "type.__subclasses__.Exception.n")) (Value.str (Str.ofString "type.__subclasses__.Exception.n") 226) (Value.int 1 0)] 2) #[],
Obj.mk (Value.type "dict") none (Data.dict #[DictEntry.mk (PyData.keyHash P (Str.ofString "__name__")) (Value.str (Str.ofString "__name__") 165) (Value.str (Str.ofString "law_nz0305_01") 694), DictEntry.mk (PyData.keyHash P (Str.ofString "__doc__")) (Value.str (Str.ofString "__doc__") 166) Value.none, DictEntry.mk (PyData.keyHash P (Str.ofString "__package__")) (Value.str (Str.ofString "__package__") 167) Value.none, DictEntry.mk (PyData.keyHash P (Str.ofString "__loader__")) (Value.str (Str.ofString "__loader__") 168) (Value.builtin "__main__.__loader__#opaque"), DictEntry.mk (PyData.keyHash P (Str.ofString "__spec__")) (Value.str (Str.ofString "__spec__") 169) Value.none, DictEntry.mk (PyData.keyHash P (Str.ofString "__annotations__")) (Value.str (Str.ofString "__annotations__") 170) (Value.ref 6), DictEntry.mk (PyData.keyHash P (Str.ofString "__builtins__")) (Value.str (Str.ofString "__builtins__") 171) (Value.ref 4), DictEntry.mk (PyData.keyHash P (Str.ofString "__file__")) (Value.str (Str.ofString "__file__") 173) (Value.str (Str.ofString "/claim/cut.py") 172), DictEntry.mk (PyData.keyHash P (Str.ofString "__cached__")) (Value.str (Str.ofString "__cached__") 174) Value.none, DictEntry.mk (PyData.keyHash P (Str.ofString "PostError")) (Value.str (Str.ofString "PostError") 228) (Value.ref 39), DictEntry.mk (PyData.keyHash P (Str.ofString "WordFault")) (Value.str (Str.ofString "WordFault") 244) (Value.ref 52), DictEntry.mk (PyData.keyHash P (Str.ofString "lower_code")) (Value.str (Str.ofString "lower_code") 253) (Value.ref 61), DictEntry.mk (PyData.keyHash P (Str.ofString "lower_text")) (Value.str (Str.ofString "lower_text") 259) (Value.ref 66), DictEntry.mk (PyData.keyHash P (Str.ofString "MOST_DEPTH")) (Value.str (Str.ofString "MOST_DEPTH") 263) (Value.int 20 262), DictEntry.mk (PyData.keyHash P (Str.ofString "SIGNS")) (Value.str (Str.ofString "SIGNS") 265) (Value.bytes #[60, 62, 64, 44, 59, 58, 46, 92] 264), DictEntry.mk (PyData.keyHash P (Str.ofString "ATOM_SIGNS")) (Value.str (Str.ofString "ATOM_SIGNS") 267) (Value.bytes #[33, 35, 36, 37, 38, 39, 42, 43, 45, 47, 61, 63, 94, 95, 96, 123, 124, 125, 126] 266), DictEntry.mk (PyData.keyHash P (Str.ofString "NEVER_ESCAPED")) (Value.str (Str.ofString "NEVER_ESCAPED") 271) (Value.ref 67), DictEntry.mk (PyData.keyHash P (Str.ofString "is_atom_code")) (Value.str (Str.ofString "is_atom_code") 278) (Value.ref 74), DictEntry.mk (PyData.keyHash P (Str.ofString "line_end")) (Value.str (Str.ofString "line_end") 286) (Value.ref 81), DictEntry.mk (PyData.keyHash P (Str.ofString "inside_at")) (Value.str (Str.ofString "inside_at") 296) (Value.ref 88), DictEntry.mk (PyData.keyHash P (Str.ofString "closed_at")) (Value.str (Str.ofString "closed_at") 309) (Value.ref 95), DictEntry.mk (PyData.keyHash P (Str.ofString "comment_at")) (Value.str (Str.ofString "comment_at") 322) (Value.ref 102), DictEntry.mk (PyData.keyHash P (Str.ofString "atom_at")) (Value.str (Str.ofString "atom_at") 331) (Value.ref 109), DictEntry.mk (PyData.keyHash P (Str.ofString "token_at")) (Value.str (Str.ofString "token_at") 342) (Value.ref 116), DictEntry.mk (PyData.keyHash P (Str.ofString "past_white")) (Value.str (Str.ofString "past_white") 351) (Value.ref 123), DictEntry.mk (PyData.keyHash P (Str.ofString "tokens_of")) (Value.str (Str.ofString "tokens_of") 361) (Value.ref 130), DictEntry.mk (PyData.keyHash P (Str.ofString "without_comments")) (Value.str (Str.ofString "without_comments") 367) (Value.ref 135), DictEntry.mk (PyData.keyHash P (Str.ofString "MONTHS")) (Value.str (Str.ofString "MONTHS") 382) (Value.ref 136), DictEntry.mk (PyData.keyHash P (Str.ofString "DAYS")) (Value.str (Str.ofString "DAYS") 390) (Value.ref 137), DictEntry.mk (PyData.keyHash P (Str.ofString "MOST_YEAR")) (Value.str (Str.ofString "MOST_YEAR") 392) (Value.int 9999 391), DictEntry.mk (PyData.keyHash P (Str.ofString "MOST_ZONE")) (Value.str (Str.ofString "MOST_ZONE") 398) (Value.int 5999 397), DictEntry.mk (PyData.keyHash P (Str.ofString "FIRST_DAY")) (Value.str (Str.ofString "FIRST_DAY") 400) (Value.int 719162 399), DictEntry.mk (PyData.keyHash P (Str.ofString "Moment")) (Value.str (Str.ofString "Moment") 448) (Value.ref 161), DictEntry.mk (PyData.keyHash P (Str.ofString "is_leap")) (Value.str (Str.ofString "is_leap") 455) (Value.ref 172), DictEntry.mk (PyData.keyHash P (Str.ofString "month_length")) (Value.str (Str.ofString "month_length") 463) (Value.ref 179), DictEntry.mk (PyData.keyHash P (Str.ofString "days_before_year")) (Value.str (Str.ofString "days_before_year") 471) (Value.ref 186), DictEntry.mk (PyData.keyHash P (Str.ofString "day_number")) (Value.str (Str.ofString "day_number") 482) (Value.ref 193), DictEntry.mk (PyData.keyHash P (Str.ofString "weekday")) (Value.str (Str.ofString "weekday") 491) (Value.ref 200), DictEntry.mk (PyData.keyHash P (Str.ofString "is_day")) (Value.str (Str.ofString "is_day") 500) (Value.ref 207), DictEntry.mk (PyData.keyHash P (Str.ofString "is_time")) (Value.str (Str.ofString "is_time") 509) (Value.ref 214), DictEntry.mk (PyData.keyHash P (Str.ofString "check_moment")) (Value.str (Str.ofString "check_moment") 517) (Value.ref 221), DictEntry.mk (PyData.keyHash P (Str.ofString "month_number")) (Value.str (Str.ofString "month_number") 523) (Value.ref 226), DictEntry.mk (PyData.keyHash P (Str.ofString "is_day_name")) (Value.str (Str.ofString "is_day_name") 529) (Value.ref 231), DictEntry.mk (PyData.keyHash P (Str.ofString "padded")) (Value.str (Str.ofString "padded") 538) (Value.ref 238), DictEntry.mk (PyData.keyHash P (Str.ofString "zone_text")) (Value.str (Str.ofString "zone_text") 545) (Value.ref 245), DictEntry.mk (PyData.keyHash P (Str.ofString "clock_text")) (Value.str (Str.ofString "clock_text") 551) (Value.ref 250), DictEntry.mk (PyData.keyHash P (Str.ofString "is_figures")) (Value.str (Str.ofString "is_figures") 557) (Value.ref 255), DictEntry.mk (PyData.keyHash P (Str.ofString "zone_in")) (Value.str (Str.ofString "zone_in") 565) (Value.ref 262), DictEntry.mk (PyData.keyHash P (Str.ofString "named_zone")) (Value.str (Str.ofString "named_zone") 571) (Value.ref 267), DictEntry.mk (PyData.keyHash P (Str.ofString "DateReader")) (Value.str (Str.ofString "DateReader") 642) (Value.ref 317), DictEntry.mk (PyData.keyHash P (Str.ofString "full_year")) (Value.str (Str.ofString "full_year") 650) (Value.ref 328), DictEntry.mk (PyData.keyHash P (Str.ofString "read_clock")) (Value.str (Str.ofString "read_clock") 660) (Value.ref 335), DictEntry.mk (PyData.keyHash P (Str.ofString "read_zone")) (Value.str (Str.ofString "read_zone") 669) (Value.ref 342), DictEntry.mk (PyData.keyHash P (Str.ofString "read_date")) (Value.str (Str.ofString "read_date") 687) (Value.ref 349), DictEntry.mk (PyData.keyHash P (Str.ofString "write_date")) (Value.str (Str.ofString "write_date") 693) (Value.ref 354), DictEntry.mk (PyData.keyHash P (Str.ofString "_law_box")) (Value.str (Str.ofString "_law_box") 701) (Value.ref 359), DictEntry.mk (PyData.keyHash P (Str.ofString "_law_draw")) (Value.str (Str.ofString "_law_draw") 711) (Value.ref 366), DictEntry.mk (PyData.keyHash P (Str.ofString "_law_twins")) (Value.str (Str.ofString "_law_twins") 730) (Value.ref 376), DictEntry.mk (PyData.keyHash P (Str.ofString "law")) (Value.str (Str.ofString "law") 736) (Value.ref 381)] 59) #[],
Obj.mk (Value.type "module") (some 0) Data.plain #[],
Obj.mk (Value.type "module") (some 3) Data.plain #[],
Obj.mk (Value.type "dict") none (Data.dict #[]) #[],
Obj.mk (Value.type "tuple") none (Data.seq #[]) #[],
Obj.mk Value.none none (Data.fields #[]) #[],
Obj.mk (Value.type "code") none (Data.fields #[Value.str (Str.ofString "<module>") 176, Value.str (Str.ofString "<module>") 177, Value.str (Str.ofString "/claim/cut.py") 178, Value.int 1 0, Value.int 0 0, Value.int 0 0, Value.int 0 0, Value.int 0 0, Value.ref 7, Value.bool false, Value.int 175 0, Value.ref 8, Value.none, Value.none, Value.none, Value.none, Value.int 179 0, Value.int 1 0, Value.str (Str.ofString "/claim/cut.py") 180]) #[],
Obj.mk (Value.type "frame") none Data.plain #[some (Value.ref 9), some (Value.ref 3), some (Value.ref 3), none, some (Value.str (Str.ofString "__main__") 164), none, some (Value.ref 0)],
Obj.mk (Value.type "tuple") none (Data.seq #[]) #[],
Obj.mk Value.none none (Data.fields #[Value.int 2 0, Value.int 0 0, Value.ref 20, Value.int 11 0, Value.int 0 0, Value.ref 48, Value.int 14 0, Value.int 0 0, Value.ref 60, Value.int 16 0, Value.int 0 0, Value.ref 65, Value.int 23 0, Value.int 0 0, Value.ref 73, Value.int 25 0, Value.int 0 0, Value.ref 80, Value.int 29 0, Value.int 0 0, Value.ref 87, Value.int 42 0, Value.int 0 0, Value.ref 94, Value.int 51 0, Value.int 0 0, Value.ref 101, Value.int 66 0, Value.int 0 0, Value.ref 108, Value.int 71 0, Value.int 0 0, Value.ref 115, Value.int 88 0, Value.int 0 0, Value.ref 122, Value.int 95 0, Value.int 0 0, Value.ref 129, Value.int 103 0, Value.int 0 0, Value.ref 134, Value.int 111 0, Value.int 0 0, Value.ref 143, Value.int 124 0, Value.int 0 0, Value.ref 171, Value.int 126 0, Value.int 0 0, Value.ref 178, Value.int 130 0, Value.int 0 0, Value.ref 185, Value.int 133 0, Value.int 0 0, Value.ref 192, Value.int 138 0, Value.int 0 0, Value.ref 199, Value.int 140 0, Value.int 0 0, Value.ref 206, Value.int 142 0, Value.int 0 0, Value.ref 213, Value.int 144 0, Value.int 0 0, Value.ref 220, Value.int 148 0, Value.int 0 0, Value.ref 225, Value.int 151 0, Value.int 0 0, Value.ref 230, Value.int 153 0, Value.int 0 0, Value.ref 237, Value.int 156 0, Value.int 0 0, Value.ref 244, Value.int 158 0, Value.int 0 0, Value.ref 249, Value.int 161 0, Value.int 0 0, Value.ref 254, Value.int 163 0, Value.int 0 0, Value.ref 261, Value.int 168 0, Value.int 0 0, Value.ref 266, Value.int 173 0, Value.int 0 0, Value.ref 273, Value.int 205 0, Value.int 0 0, Value.ref 327, Value.int 209 0, Value.int 0 0, Value.ref 334, Value.int 216 0, Value.int 0 0, Value.ref 341, Value.int 223 0, Value.int 0 0, Value.ref 348, Value.int 244 0, Value.int 0 0, Value.ref 353, Value.int 250 0, Value.int 0 0, Value.ref 358, Value.int 259 0, Value.int 0 0, Value.ref 365, Value.int 271 0, Value.int 0 0, Value.ref 380]) #[],
Obj.mk (Value.type "code") none (Data.fields #[Value.str (Str.ofString "<module>") 182, Value.str (Str.ofString "<module>") 183, Value.str (Str.ofString "/claim/cut.py") 184, Value.int 1 0, Value.int 0 0, Value.int 0 0, Value.int 0 0, Value.int 0 0, Value.ref 11, Value.bool false, Value.int 181 0, Value.ref 12, Value.none, Value.none, Value.none, Value.none, Value.int 185 0, Value.int 1 0, Value.str (Str.ofString "/claim/cut.py") 186]) #[],
Obj.mk (Value.type "frame") none Data.plain #[some (Value.ref 13), some (Value.ref 3), some (Value.ref 3), none, some (Value.str (Str.ofString "__main__") 164), none, some (Value.ref 0)],
Obj.mk (Value.type "tuple") none (Data.seq #[Value.type "Exception"]) #[],
Obj.mk (Value.type "builtin_function_or_method") none (Data.fields #[Value.builtin "type.__prepare__", Value.type "type"]) #[],
Obj.mk (Value.type "dict") none (Data.dict #[DictEntry.mk (PyData.keyHash P (Str.ofString "__module__")) (Value.str (Str.ofString "__module__") 196) (Value.str (Str.ofString "postkeep.errors") 187), DictEntry.mk (PyData.keyHash P (Str.ofString "__qualname__")) (Value.str (Str.ofString "__qualname__") 198) (Value.str (Str.ofString "PostError") 197), DictEntry.mk (PyData.keyHash P (Str.ofString "__firstlineno__")) (Value.str (Str.ofString "__firstlineno__") 200) (Value.int 2 199), DictEntry.mk (PyData.keyHash P (Str.ofString "__init__")) (Value.str (Str.ofString "__init__") 211) (Value.ref 29), DictEntry.mk (PyData.keyHash P (Str.ofString "told")) (Value.str (Str.ofString "told") 218) (Value.ref 36), DictEntry.mk (PyData.keyHash P (Str.ofString "__static_attributes__")) (Value.str (Str.ofString "__static_attributes__") 221) (Value.ref 37)] 6) #[],
Obj.mk (Value.type "tuple") none (Data.seq #[]) #[],
Obj.mk Value.none none (Data.fields #[Value.int 4 0, Value.int 4 0, Value.ref 28, Value.int 9 0, Value.int 4 0, Value.ref 35]) #[],
Obj.mk (Value.type "code") none (Data.fields #[Value.str (Str.ofString "PostError") 191, Value.str (Str.ofString "PostError") 192, Value.str (Str.ofString "/claim/cut.py") 193, Value.int 2 0, Value.int 0 0, Value.int 0 0, Value.int 0 0, Value.int 0 0, Value.ref 18, Value.bool false, Value.int 181 0, Value.ref 19, Value.none, Value.none, Value.none, Value.none, Value.int 194 0, Value.int 2 0, Value.str (Str.ofString "/claim/cut.py") 195]) #[],
Obj.mk (Value.type "frame") none Data.plain #[some (Value.ref 20), some (Value.ref 3), some (Value.ref 17), none, some (Value.str (Str.ofString "postkeep.errors") 187), none, some (Value.ref 0)],
Obj.mk (Value.type "tuple") none (Data.seq #[Value.int (-1) 202]) #[],
Obj.mk (Value.type "tuple") none (Data.seq #[]) #[],
Obj.mk Value.none none (Data.fields #[]) #[],
Obj.mk (Value.type "tuple") none (Data.seq #[Value.str (Str.ofString "self") 206, Value.str (Str.ofString "what") 207, Value.str (Str.ofString "at") 208]) #[],
Obj.mk (Value.type "tuple") none (Data.seq #[]) #[],
Obj.mk Value.none none (Data.func (FuncData.mk (Str.ofString "__init__") (Str.ofString "PostError.__init__") (sArgs (inAt 1 0)) (sBody (inAt 1 0)) (sScope (inAt 1 0)) 0 [] Value.none Value.none Value.none Value.none none Value.none Value.none 0)) #[],
Obj.mk (Value.type "code") none (Data.fields #[Value.str (Str.ofString "__init__") 203, Value.str (Str.ofString "PostError.__init__") 204, Value.str (Str.ofString "/claim/cut.py") 205, Value.int 4 0, Value.int 3 0, Value.int 0 0, Value.int 0 0, Value.int 3 0, Value.ref 23, Value.bool true, Value.int 181 0, Value.ref 24, Value.none, Value.ref 25, Value.ref 26, Value.ref 27, Value.int 209 0, Value.int 4 0, Value.str (Str.ofString "/claim/cut.py") 210]) #[],
Obj.mk (Value.type "function") none (Data.func (FuncData.mk (Str.ofString "__init__") (Str.ofString "PostError.__init__") (sArgs (inAt 1 0)) (sBody (inAt 1 0)) (sScope (inAt 1 0)) 3 [] (Value.ref 22) Value.none Value.none (Value.str (Str.ofString "postkeep.errors") 187) none (Value.ref 28) Value.none 0)) #[],
Obj.mk (Value.type "tuple") none (Data.seq #[]) #[],
Obj.mk Value.none none (Data.fields #[]) #[]]
noncomputable def endO1 (P : Params) : List Obj := [
Obj.mk (Value.type "tuple") none (Data.seq #[Value.str (Str.ofString "self") 215]) #[],
Obj.mk (Value.type "tuple") none (Data.seq #[]) #[],
Obj.mk Value.none none (Data.func (FuncData.mk (Str.ofString "told") (Str.ofString "PostError.told") (sArgs (inAt 1 1)) (sBody (inAt 1 1)) (sScope (inAt 1 1)) 0 [] Value.none Value.none Value.none Value.none none Value.none Value.none 0)) #[],
Obj.mk (Value.type "code") none (Data.fields #[Value.str (Str.ofString "told") 212, Value.str (Str.ofString "PostError.told") 213, Value.str (Str.ofString "/claim/cut.py") 214, Value.int 9 0, Value.int 1 0, Value.int 0 0, Value.int 0 0, Value.int 3 0, Value.ref 30, Value.bool true, Value.int 181 0, Value.ref 31, Value.none, Value.ref 32, Value.ref 33, Value.ref 34, Value.int 216 0, Value.int 9 0, Value.str (Str.ofString "/claim/cut.py") 217]) #[],
Obj.mk (Value.type "function") none (Data.func (FuncData.mk (Str.ofString "told") (Str.ofString "PostError.told") (sArgs (inAt 1 1)) (sBody (inAt 1 1)) (sScope (inAt 1 1)) 3 [] Value.none Value.none Value.none (Value.str (Str.ofString "postkeep.errors") 187) none (Value.ref 35) Value.none 0)) #[],
Obj.mk (Value.type "tuple") none (Data.seq #[Value.str (Str.ofString "at") 219, Value.str (Str.ofString "what") 220]) #[],
Obj.mk (Value.type "dict") none (Data.dict #[DictEntry.mk (PyData.keyHash P (Str.ofString "__module__")) (Value.str (Str.ofString "__module__") 196) (Value.str (Str.ofString "postkeep.errors") 187), DictEntry.mk (PyData.keyHash P (Str.ofString "__firstlineno__")) (Value.str (Str.ofString "__firstlineno__") 200) (Value.int 2 199), DictEntry.mk (PyData.keyHash P (Str.ofString "__init__")) (Value.str (Str.ofString "__init__") 211) (Value.ref 29), DictEntry.mk (PyData.keyHash P (Str.ofString "told")) (Value.str (Str.ofString "told") 218) (Value.ref 36), DictEntry.mk (PyData.keyHash P (Str.ofString "__static_attributes__")) (Value.str (Str.ofString "__static_attributes__") 221) (Value.ref 37), DictEntry.mk (PyData.keyHash P (Str.ofString "__weakref__")) (Value.str (Str.ofString "__weakref__") 223) (Value.ref 40), DictEntry.mk (PyData.keyHash P (Str.ofString "__doc__")) (Value.str (Str.ofString "__doc__") 224) Value.none] 3) #[],
Obj.mk (Value.type "type") none (Data.cls (ClassData.mk (Str.ofString "PostError") [Value.type "Exception"] [Value.ref 39, Value.type "Exception", Value.type "BaseException", Value.type "object"] 38 (Str.ofString "PostError") true [] [Value.ref 52] false none false)) #[some (Value.ref 15), none, some (Value.str (Str.ofString "PostError") 189), some (Value.str (Str.ofString "PostError") 197), some (Value.builtin "Exception.__new__"), some (Value.bool true)],
Obj.mk (Value.type "getset_descriptor") none (Data.fields #[Value.str (Str.ofString "__weakref__") 222, Value.ref 39, Value.builtin "ExceptionGroup.__weakref__", Value.none]) #[],
Obj.mk (Value.type "super") none (Data.fields #[Value.ref 39, Value.ref 39, Value.ref 39]) #[],
Obj.mk (Value.type "builtin_function_or_method") none (Data.fields #[Value.builtin "object.__init_subclass__", Value.ref 39]) #[],
Obj.mk (Value.type "tuple") none (Data.seq #[Value.ref 39]) #[],
Obj.mk (Value.type "builtin_function_or_method") none (Data.fields #[Value.builtin "type.__prepare__", Value.type "type"]) #[],
Obj.mk (Value.type "dict") none (Data.dict #[DictEntry.mk (PyData.keyHash P (Str.ofString "__module__")) (Value.str (Str.ofString "__module__") 236) (Value.str (Str.ofString "postkeep.errors") 187), DictEntry.mk (PyData.keyHash P (Str.ofString "__qualname__")) (Value.str (Str.ofString "__qualname__") 238) (Value.str (Str.ofString "WordFault") 237), DictEntry.mk (PyData.keyHash P (Str.ofString "__firstlineno__")) (Value.str (Str.ofString "__firstlineno__") 240) (Value.int 11 239), DictEntry.mk (PyData.keyHash P (Str.ofString "__static_attributes__")) (Value.str (Str.ofString "__static_attributes__") 241) (Value.ref 50)] 4) #[],
Obj.mk (Value.type "tuple") none (Data.seq #[]) #[],
Obj.mk Value.none none (Data.fields #[]) #[],
Obj.mk (Value.type "code") none (Data.fields #[Value.str (Str.ofString "WordFault") 231, Value.str (Str.ofString "WordFault") 232, Value.str (Str.ofString "/claim/cut.py") 233, Value.int 11 0, Value.int 0 0, Value.int 0 0, Value.int 0 0, Value.int 0 0, Value.ref 46, Value.bool false, Value.int 181 0, Value.ref 47, Value.none, Value.none, Value.none, Value.none, Value.int 234 0, Value.int 11 0, Value.str (Str.ofString "/claim/cut.py") 235]) #[],
Obj.mk (Value.type "frame") none Data.plain #[some (Value.ref 48), some (Value.ref 3), some (Value.ref 45), none, some (Value.str (Str.ofString "postkeep.errors") 187), none, some (Value.ref 0)],
Obj.mk (Value.type "tuple") none (Data.seq #[]) #[],
Obj.mk (Value.type "dict") none (Data.dict #[DictEntry.mk (PyData.keyHash P (Str.ofString "__module__")) (Value.str (Str.ofString "__module__") 236) (Value.str (Str.ofString "postkeep.errors") 187), DictEntry.mk (PyData.keyHash P (Str.ofString "__firstlineno__")) (Value.str (Str.ofString "__firstlineno__") 240) (Value.int 11 239), DictEntry.mk (PyData.keyHash P (Str.ofString "__static_attributes__")) (Value.str (Str.ofString "__static_attributes__") 241) (Value.ref 50), DictEntry.mk (PyData.keyHash P (Str.ofString "__doc__")) (Value.str (Str.ofString "__doc__") 242) Value.none] 2) #[],
Obj.mk (Value.type "type") none (Data.cls (ClassData.mk (Str.ofString "WordFault") [Value.ref 39] [Value.ref 52, Value.ref 39, Value.type "Exception", Value.type "BaseException", Value.type "object"] 51 (Str.ofString "WordFault") true [] [] false none false)) #[some (Value.ref 43), none, some (Value.str (Str.ofString "WordFault") 229), some (Value.str (Str.ofString "WordFault") 237), some (Value.builtin "Exception.__new__"), some (Value.bool true)],
Obj.mk (Value.type "super") none (Data.fields #[Value.ref 52, Value.ref 52, Value.ref 52]) #[],
Obj.mk (Value.type "builtin_function_or_method") none (Data.fields #[Value.builtin "object.__init_subclass__", Value.ref 52]) #[],
Obj.mk (Value.type "tuple") none (Data.seq #[]) #[],
Obj.mk Value.none none (Data.fields #[]) #[],
Obj.mk (Value.type "tuple") none (Data.seq #[Value.str (Str.ofString "code") 250]) #[],
Obj.mk (Value.type "tuple") none (Data.seq #[]) #[],
Obj.mk Value.none none (Data.func (FuncData.mk (Str.ofString "lower_code") (Str.ofString "lower_code") (sArgs (topAt 4)) (sBody (topAt 4)) (sScope (topAt 4)) 0 [] Value.none Value.none Value.none Value.none none Value.none Value.none 0)) #[],
Obj.mk (Value.type "code") none (Data.fields #[Value.str (Str.ofString "lower_code") 247, Value.str (Str.ofString "lower_code") 248, Value.str (Str.ofString "/claim/cut.py") 249, Value.int 14 0, Value.int 1 0, Value.int 0 0, Value.int 0 0, Value.int 3 0, Value.ref 55, Value.bool true, Value.int 181 0, Value.ref 56, Value.none, Value.ref 57, Value.ref 58, Value.ref 59, Value.int 251 0, Value.int 14 0, Value.str (Str.ofString "/claim/cut.py") 252]) #[],
Obj.mk (Value.type "function") none (Data.func (FuncData.mk (Str.ofString "lower_code") (Str.ofString "lower_code") (sArgs (topAt 4)) (sBody (topAt 4)) (sScope (topAt 4)) 3 [] Value.none Value.none Value.none (Value.str (Str.ofString "postkeep.octets") 245) none (Value.ref 60) Value.none 0)) #[],
Obj.mk (Value.type "tuple") none (Data.seq #[]) #[],
Obj.mk Value.none none (Data.fields #[]) #[]]
noncomputable def endO2 (P : Params) : List Obj := [
Obj.mk Value.none none (Data.func (FuncData.mk (Str.ofString "lower_text") (Str.ofString "lower_text") (sArgs (topAt 5)) (sBody (topAt 5)) (sScope (topAt 5)) 0 [] Value.none Value.none Value.none Value.none none Value.none Value.none 0)) #[],
Obj.mk (Value.type "code") none (Data.fields #[Value.str (Str.ofString "lower_text") 254, Value.str (Str.ofString "lower_text") 255, Value.str (Str.ofString "/claim/cut.py") 256, Value.int 16 0, Value.int 1 0, Value.int 0 0, Value.int 0 0, Value.int 3 0, Value.ref 62, Value.bool true, Value.int 181 0, Value.ref 63, Value.none, Value.none, Value.none, Value.ref 64, Value.int 257 0, Value.int 16 0, Value.str (Str.ofString "/claim/cut.py") 258]) #[],
Obj.mk (Value.type "function") none (Data.func (FuncData.mk (Str.ofString "lower_text") (Str.ofString "lower_text") (sArgs (topAt 5)) (sBody (topAt 5)) (sScope (topAt 5)) 3 [] Value.none Value.none Value.none (Value.str (Str.ofString "postkeep.octets") 245) none (Value.ref 65) Value.none 0)) #[],
Obj.mk (Value.type "tuple") none (Data.seq #[Value.int 0 268, Value.int 10 269, Value.int 13 270]) #[],
Obj.mk (Value.type "tuple") none (Data.seq #[]) #[],
Obj.mk Value.none none (Data.fields #[]) #[],
Obj.mk (Value.type "tuple") none (Data.seq #[Value.str (Str.ofString "code") 275]) #[],
Obj.mk (Value.type "tuple") none (Data.seq #[]) #[],
Obj.mk Value.none none (Data.func (FuncData.mk (Str.ofString "is_atom_code") (Str.ofString "is_atom_code") (sArgs (topAt 11)) (sBody (topAt 11)) (sScope (topAt 11)) 0 [] Value.none Value.none Value.none Value.none none Value.none Value.none 0)) #[],
Obj.mk (Value.type "code") none (Data.fields #[Value.str (Str.ofString "is_atom_code") 272, Value.str (Str.ofString "is_atom_code") 273, Value.str (Str.ofString "/claim/cut.py") 274, Value.int 23 0, Value.int 1 0, Value.int 0 0, Value.int 0 0, Value.int 3 0, Value.ref 68, Value.bool true, Value.int 181 0, Value.ref 69, Value.none, Value.ref 70, Value.ref 71, Value.ref 72, Value.int 276 0, Value.int 23 0, Value.str (Str.ofString "/claim/cut.py") 277]) #[],
Obj.mk (Value.type "function") none (Data.func (FuncData.mk (Str.ofString "is_atom_code") (Str.ofString "is_atom_code") (sArgs (topAt 11)) (sBody (topAt 11)) (sScope (topAt 11)) 3 [] Value.none Value.none Value.none (Value.str (Str.ofString "postkeep.tokens") 260) none (Value.ref 73) Value.none 0)) #[],
Obj.mk (Value.type "tuple") none (Data.seq #[]) #[],
Obj.mk Value.none none (Data.fields #[]) #[],
Obj.mk (Value.type "tuple") none (Data.seq #[Value.str (Str.ofString "data") 282, Value.str (Str.ofString "at") 283]) #[],
Obj.mk (Value.type "tuple") none (Data.seq #[]) #[],
Obj.mk Value.none none (Data.func (FuncData.mk (Str.ofString "line_end") (Str.ofString "line_end") (sArgs (topAt 12)) (sBody (topAt 12)) (sScope (topAt 12)) 0 [] Value.none Value.none Value.none Value.none none Value.none Value.none 0)) #[],
Obj.mk (Value.type "code") none (Data.fields #[Value.str (Str.ofString "line_end") 279, Value.str (Str.ofString "line_end") 280, Value.str (Str.ofString "/claim/cut.py") 281, Value.int 25 0, Value.int 2 0, Value.int 0 0, Value.int 0 0, Value.int 3 0, Value.ref 75, Value.bool true, Value.int 181 0, Value.ref 76, Value.none, Value.ref 77, Value.ref 78, Value.ref 79, Value.int 284 0, Value.int 25 0, Value.str (Str.ofString "/claim/cut.py") 285]) #[],
Obj.mk (Value.type "function") none (Data.func (FuncData.mk (Str.ofString "line_end") (Str.ofString "line_end") (sArgs (topAt 12)) (sBody (topAt 12)) (sScope (topAt 12)) 3 [] Value.none Value.none Value.none (Value.str (Str.ofString "postkeep.tokens") 260) none (Value.ref 80) Value.none 0)) #[],
Obj.mk (Value.type "tuple") none (Data.seq #[]) #[],
Obj.mk Value.none none (Data.fields #[]) #[],
Obj.mk (Value.type "tuple") none (Data.seq #[Value.str (Str.ofString "data") 290, Value.str (Str.ofString "at") 291, Value.str (Str.ofString "begun") 292, Value.str (Str.ofString "behind") 293]) #[],
Obj.mk (Value.type "tuple") none (Data.seq #[]) #[],
Obj.mk Value.none none (Data.func (FuncData.mk (Str.ofString "inside_at") (Str.ofString "inside_at") (sArgs (topAt 13)) (sBody (topAt 13)) (sScope (topAt 13)) 0 [] Value.none Value.none Value.none Value.none none Value.none Value.none 0)) #[],
Obj.mk (Value.type "code") none (Data.fields #[Value.str (Str.ofString "inside_at") 287, Value.str (Str.ofString "inside_at") 288, Value.str (Str.ofString "/claim/cut.py") 289, Value.int 29 0, Value.int 3 0, Value.int 0 0, Value.int 0 0, Value.int 3 0, Value.ref 82, Value.bool true, Value.int 181 0, Value.ref 83, Value.none, Value.ref 84, Value.ref 85, Value.ref 86, Value.int 294 0, Value.int 29 0, Value.str (Str.ofString "/claim/cut.py") 295]) #[],
Obj.mk (Value.type "function") none (Data.func (FuncData.mk (Str.ofString "inside_at") (Str.ofString "inside_at") (sArgs (topAt 13)) (sBody (topAt 13)) (sScope (topAt 13)) 3 [] Value.none Value.none Value.none (Value.str (Str.ofString "postkeep.tokens") 260) none (Value.ref 87) Value.none 0)) #[],
Obj.mk (Value.type "tuple") none (Data.seq #[]) #[],
Obj.mk Value.none none (Data.fields #[]) #[],
Obj.mk (Value.type "tuple") none (Data.seq #[Value.str (Str.ofString "data") 300, Value.str (Str.ofString "begun") 301, Value.str (Str.ofString "closing") 302, Value.str (Str.ofString "barred") 303, Value.str (Str.ofString "parts") 304, Value.str (Str.ofString "at") 305, Value.str (Str.ofString "octets") 306]) #[],
Obj.mk (Value.type "tuple") none (Data.seq #[]) #[],
Obj.mk Value.none none (Data.func (FuncData.mk (Str.ofString "closed_at") (Str.ofString "closed_at") (sArgs (topAt 14)) (sBody (topAt 14)) (sScope (topAt 14)) 0 [] Value.none Value.none Value.none Value.none none Value.none Value.none 0)) #[],
Obj.mk (Value.type "code") none (Data.fields #[Value.str (Str.ofString "closed_at") 297, Value.str (Str.ofString "closed_at") 298, Value.str (Str.ofString "/claim/cut.py") 299, Value.int 42 0, Value.int 4 0, Value.int 0 0, Value.int 0 0, Value.int 3 0, Value.ref 89, Value.bool true, Value.int 181 0, Value.ref 90, Value.none, Value.ref 91, Value.ref 92, Value.ref 93, Value.int 307 0, Value.int 42 0, Value.str (Str.ofString "/claim/cut.py") 308]) #[],
Obj.mk (Value.type "function") none (Data.func (FuncData.mk (Str.ofString "closed_at") (Str.ofString "closed_at") (sArgs (topAt 14)) (sBody (topAt 14)) (sScope (topAt 14)) 3 [] Value.none Value.none Value.none (Value.str (Str.ofString "postkeep.tokens") 260) none (Value.ref 94) Value.none 0)) #[]]
noncomputable def endO3 (P : Params) : List Obj := [
Obj.mk (Value.type "tuple") none (Data.seq #[]) #[],
Obj.mk Value.none none (Data.fields #[]) #[],
Obj.mk (Value.type "tuple") none (Data.seq #[Value.str (Str.ofString "data") 313, Value.str (Str.ofString "begun") 314, Value.str (Str.ofString "parts") 315, Value.str (Str.ofString "depth") 316, Value.str (Str.ofString "at") 317, Value.str (Str.ofString "sign") 318, Value.str (Str.ofString "octets") 319]) #[],
Obj.mk (Value.type "tuple") none (Data.seq #[]) #[],
Obj.mk Value.none none (Data.func (FuncData.mk (Str.ofString "comment_at") (Str.ofString "comment_at") (sArgs (topAt 15)) (sBody (topAt 15)) (sScope (topAt 15)) 0 [] Value.none Value.none Value.none Value.none none Value.none Value.none 0)) #[],
Obj.mk (Value.type "code") none (Data.fields #[Value.str (Str.ofString "comment_at") 310, Value.str (Str.ofString "comment_at") 311, Value.str (Str.ofString "/claim/cut.py") 312, Value.int 51 0, Value.int 2 0, Value.int 0 0, Value.int 0 0, Value.int 3 0, Value.ref 96, Value.bool true, Value.int 181 0, Value.ref 97, Value.none, Value.ref 98, Value.ref 99, Value.ref 100, Value.int 320 0, Value.int 51 0, Value.str (Str.ofString "/claim/cut.py") 321]) #[],
Obj.mk (Value.type "function") none (Data.func (FuncData.mk (Str.ofString "comment_at") (Str.ofString "comment_at") (sArgs (topAt 15)) (sBody (topAt 15)) (sScope (topAt 15)) 3 [] Value.none Value.none Value.none (Value.str (Str.ofString "postkeep.tokens") 260) none (Value.ref 101) Value.none 0)) #[],
Obj.mk (Value.type "tuple") none (Data.seq #[]) #[],
Obj.mk Value.none none (Data.fields #[]) #[],
Obj.mk (Value.type "tuple") none (Data.seq #[Value.str (Str.ofString "data") 326, Value.str (Str.ofString "at") 327, Value.str (Str.ofString "end") 328]) #[],
Obj.mk (Value.type "tuple") none (Data.seq #[]) #[],
Obj.mk Value.none none (Data.func (FuncData.mk (Str.ofString "atom_at") (Str.ofString "atom_at") (sArgs (topAt 16)) (sBody (topAt 16)) (sScope (topAt 16)) 0 [] Value.none Value.none Value.none Value.none none Value.none Value.none 0)) #[],
Obj.mk (Value.type "code") none (Data.fields #[Value.str (Str.ofString "atom_at") 323, Value.str (Str.ofString "atom_at") 324, Value.str (Str.ofString "/claim/cut.py") 325, Value.int 66 0, Value.int 2 0, Value.int 0 0, Value.int 0 0, Value.int 3 0, Value.ref 103, Value.bool true, Value.int 181 0, Value.ref 104, Value.none, Value.ref 105, Value.ref 106, Value.ref 107, Value.int 329 0, Value.int 66 0, Value.str (Str.ofString "/claim/cut.py") 330]) #[],
Obj.mk (Value.type "function") none (Data.func (FuncData.mk (Str.ofString "atom_at") (Str.ofString "atom_at") (sArgs (topAt 16)) (sBody (topAt 16)) (sScope (topAt 16)) 3 [] Value.none Value.none Value.none (Value.str (Str.ofString "postkeep.tokens") 260) none (Value.ref 108) Value.none 0)) #[],
Obj.mk (Value.type "tuple") none (Data.seq #[]) #[],
Obj.mk Value.none none (Data.fields #[]) #[],
Obj.mk (Value.type "tuple") none (Data.seq #[Value.str (Str.ofString "data") 335, Value.str (Str.ofString "at") 336, Value.str (Str.ofString "sign") 337, Value.str (Str.ofString "worth") 338, Value.str (Str.ofString "behind") 339]) #[],
Obj.mk (Value.type "tuple") none (Data.seq #[]) #[],
Obj.mk Value.none none (Data.func (FuncData.mk (Str.ofString "token_at") (Str.ofString "token_at") (sArgs (topAt 17)) (sBody (topAt 17)) (sScope (topAt 17)) 0 [] Value.none Value.none Value.none Value.none none Value.none Value.none 0)) #[],
Obj.mk (Value.type "code") none (Data.fields #[Value.str (Str.ofString "token_at") 332, Value.str (Str.ofString "token_at") 333, Value.str (Str.ofString "/claim/cut.py") 334, Value.int 71 0, Value.int 2 0, Value.int 0 0, Value.int 0 0, Value.int 3 0, Value.ref 110, Value.bool true, Value.int 181 0, Value.ref 111, Value.none, Value.ref 112, Value.ref 113, Value.ref 114, Value.int 340 0, Value.int 71 0, Value.str (Str.ofString "/claim/cut.py") 341]) #[],
Obj.mk (Value.type "function") none (Data.func (FuncData.mk (Str.ofString "token_at") (Str.ofString "token_at") (sArgs (topAt 17)) (sBody (topAt 17)) (sScope (topAt 17)) 3 [] Value.none Value.none Value.none (Value.str (Str.ofString "postkeep.tokens") 260) none (Value.ref 115) Value.none 0)) #[],
Obj.mk (Value.type "tuple") none (Data.seq #[]) #[],
Obj.mk Value.none none (Data.fields #[]) #[],
Obj.mk (Value.type "tuple") none (Data.seq #[Value.str (Str.ofString "data") 346, Value.str (Str.ofString "at") 347, Value.str (Str.ofString "behind") 348]) #[],
Obj.mk (Value.type "tuple") none (Data.seq #[]) #[],
Obj.mk Value.none none (Data.func (FuncData.mk (Str.ofString "past_white") (Str.ofString "past_white") (sArgs (topAt 18)) (sBody (topAt 18)) (sScope (topAt 18)) 0 [] Value.none Value.none Value.none Value.none none Value.none Value.none 0)) #[],
Obj.mk (Value.type "code") none (Data.fields #[Value.str (Str.ofString "past_white") 343, Value.str (Str.ofString "past_white") 344, Value.str (Str.ofString "/claim/cut.py") 345, Value.int 88 0, Value.int 2 0, Value.int 0 0, Value.int 0 0, Value.int 3 0, Value.ref 117, Value.bool true, Value.int 181 0, Value.ref 118, Value.none, Value.ref 119, Value.ref 120, Value.ref 121, Value.int 349 0, Value.int 88 0, Value.str (Str.ofString "/claim/cut.py") 350]) #[],
Obj.mk (Value.type "function") none (Data.func (FuncData.mk (Str.ofString "past_white") (Str.ofString "past_white") (sArgs (topAt 18)) (sBody (topAt 18)) (sScope (topAt 18)) 3 [] Value.none Value.none Value.none (Value.str (Str.ofString "postkeep.tokens") 260) none (Value.ref 122) Value.none 0)) #[],
Obj.mk (Value.type "tuple") none (Data.seq #[]) #[],
Obj.mk Value.none none (Data.fields #[]) #[],
Obj.mk (Value.type "tuple") none (Data.seq #[Value.str (Str.ofString "octets") 355, Value.str (Str.ofString "found") 356, Value.str (Str.ofString "at") 357, Value.str (Str.ofString "token") 358]) #[],
Obj.mk (Value.type "tuple") none (Data.seq #[]) #[]]
noncomputable def endO4 (P : Params) : List Obj := [
Obj.mk Value.none none (Data.func (FuncData.mk (Str.ofString "tokens_of") (Str.ofString "tokens_of") (sArgs (topAt 19)) (sBody (topAt 19)) (sScope (topAt 19)) 0 [] Value.none Value.none Value.none Value.none none Value.none Value.none 0)) #[],
Obj.mk (Value.type "code") none (Data.fields #[Value.str (Str.ofString "tokens_of") 352, Value.str (Str.ofString "tokens_of") 353, Value.str (Str.ofString "/claim/cut.py") 354, Value.int 95 0, Value.int 1 0, Value.int 0 0, Value.int 0 0, Value.int 3 0, Value.ref 124, Value.bool true, Value.int 181 0, Value.ref 125, Value.none, Value.ref 126, Value.ref 127, Value.ref 128, Value.int 359 0, Value.int 95 0, Value.str (Str.ofString "/claim/cut.py") 360]) #[],
Obj.mk (Value.type "function") none (Data.func (FuncData.mk (Str.ofString "tokens_of") (Str.ofString "tokens_of") (sArgs (topAt 19)) (sBody (topAt 19)) (sScope (topAt 19)) 3 [] Value.none Value.none Value.none (Value.str (Str.ofString "postkeep.tokens") 260) none (Value.ref 129) Value.none 0)) #[],
Obj.mk (Value.type "tuple") none (Data.seq #[]) #[],
Obj.mk Value.none none (Data.fields #[]) #[],
Obj.mk Value.none none (Data.func (FuncData.mk (Str.ofString "without_comments") (Str.ofString "without_comments") (sArgs (topAt 20)) (sBody (topAt 20)) (sScope (topAt 20)) 0 [] Value.none Value.none Value.none Value.none none Value.none Value.none 0)) #[],
Obj.mk (Value.type "code") none (Data.fields #[Value.str (Str.ofString "without_comments") 362, Value.str (Str.ofString "without_comments") 363, Value.str (Str.ofString "/claim/cut.py") 364, Value.int 103 0, Value.int 1 0, Value.int 0 0, Value.int 0 0, Value.int 3 0, Value.ref 131, Value.bool true, Value.int 181 0, Value.ref 132, Value.none, Value.none, Value.none, Value.ref 133, Value.int 365 0, Value.int 103 0, Value.str (Str.ofString "/claim/cut.py") 366]) #[],
Obj.mk (Value.type "function") none (Data.func (FuncData.mk (Str.ofString "without_comments") (Str.ofString "without_comments") (sArgs (topAt 20)) (sBody (topAt 20)) (sScope (topAt 20)) 3 [] Value.none Value.none Value.none (Value.str (Str.ofString "postkeep.tokens") 260) none (Value.ref 134) Value.none 0)) #[],
Obj.mk (Value.type "tuple") none (Data.seq #[Value.str (Str.ofString "Jan") 370, Value.str (Str.ofString "Feb") 371, Value.str (Str.ofString "Mar") 372, Value.str (Str.ofString "Apr") 373, Value.str (Str.ofString "May") 374, Value.str (Str.ofString "Jun") 375, Value.str (Str.ofString "Jul") 376, Value.str (Str.ofString "Aug") 377, Value.str (Str.ofString "Sep") 378, Value.str (Str.ofString "Oct") 379, Value.str (Str.ofString "Nov") 380, Value.str (Str.ofString "Dec") 381]) #[],
Obj.mk (Value.type "tuple") none (Data.seq #[Value.str (Str.ofString "Mon") 383, Value.str (Str.ofString "Tue") 384, Value.str (Str.ofString "Wed") 385, Value.str (Str.ofString "Thu") 386, Value.str (Str.ofString "Fri") 387, Value.str (Str.ofString "Sat") 388, Value.str (Str.ofString "Sun") 389]) #[],
Obj.mk (Value.type "tuple") none (Data.seq #[]) #[],
Obj.mk (Value.type "builtin_function_or_method") none (Data.fields #[Value.builtin "type.__prepare__", Value.type "type"]) #[],
Obj.mk (Value.type "dict") none (Data.dict #[DictEntry.mk (PyData.keyHash P (Str.ofString "__module__")) (Value.str (Str.ofString "__module__") 408) (Value.str (Str.ofString "postkeep.dates") 368), DictEntry.mk (PyData.keyHash P (Str.ofString "__qualname__")) (Value.str (Str.ofString "__qualname__") 410) (Value.str (Str.ofString "Moment") 409), DictEntry.mk (PyData.keyHash P (Str.ofString "__firstlineno__")) (Value.str (Str.ofString "__firstlineno__") 412) (Value.int 111 411), DictEntry.mk (PyData.keyHash P (Str.ofString "__init__")) (Value.str (Str.ofString "__init__") 426) (Value.ref 151), DictEntry.mk (PyData.keyHash P (Str.ofString "told")) (Value.str (Str.ofString "told") 433) (Value.ref 158), DictEntry.mk (PyData.keyHash P (Str.ofString "__static_attributes__")) (Value.str (Str.ofString "__static_attributes__") 441) (Value.ref 159)] 6) #[],
Obj.mk (Value.type "tuple") none (Data.seq #[]) #[],
Obj.mk Value.none none (Data.fields #[Value.int 113 0, Value.int 4 0, Value.ref 150, Value.int 122 0, Value.int 4 0, Value.ref 157]) #[],
Obj.mk (Value.type "code") none (Data.fields #[Value.str (Str.ofString "Moment") 403, Value.str (Str.ofString "Moment") 404, Value.str (Str.ofString "/claim/cut.py") 405, Value.int 111 0, Value.int 0 0, Value.int 0 0, Value.int 0 0, Value.int 0 0, Value.ref 141, Value.bool false, Value.int 181 0, Value.ref 142, Value.none, Value.none, Value.none, Value.none, Value.int 406 0, Value.int 111 0, Value.str (Str.ofString "/claim/cut.py") 407]) #[],
Obj.mk (Value.type "frame") none Data.plain #[some (Value.ref 143), some (Value.ref 3), some (Value.ref 140), none, some (Value.str (Str.ofString "postkeep.dates") 368), none, some (Value.ref 0)],
Obj.mk (Value.type "tuple") none (Data.seq #[]) #[],
Obj.mk Value.none none (Data.fields #[]) #[],
Obj.mk (Value.type "tuple") none (Data.seq #[Value.str (Str.ofString "self") 416, Value.str (Str.ofString "year") 417, Value.str (Str.ofString "month") 418, Value.str (Str.ofString "day") 419, Value.str (Str.ofString "hour") 420, Value.str (Str.ofString "minute") 421, Value.str (Str.ofString "second") 422, Value.str (Str.ofString "zone") 423]) #[],
Obj.mk (Value.type "tuple") none (Data.seq #[]) #[],
Obj.mk Value.none none (Data.func (FuncData.mk (Str.ofString "__init__") (Str.ofString "Moment.__init__") (sArgs (inAt 27 0)) (sBody (inAt 27 0)) (sScope (inAt 27 0)) 0 [] Value.none Value.none Value.none Value.none none Value.none Value.none 0)) #[],
Obj.mk (Value.type "code") none (Data.fields #[Value.str (Str.ofString "__init__") 413, Value.str (Str.ofString "Moment.__init__") 414, Value.str (Str.ofString "/claim/cut.py") 415, Value.int 113 0, Value.int 8 0, Value.int 0 0, Value.int 0 0, Value.int 3 0, Value.ref 145, Value.bool true, Value.int 181 0, Value.ref 146, Value.none, Value.ref 147, Value.ref 148, Value.ref 149, Value.int 424 0, Value.int 113 0, Value.str (Str.ofString "/claim/cut.py") 425]) #[],
Obj.mk (Value.type "function") none (Data.func (FuncData.mk (Str.ofString "__init__") (Str.ofString "Moment.__init__") (sArgs (inAt 27 0)) (sBody (inAt 27 0)) (sScope (inAt 27 0)) 3 [] Value.none Value.none Value.none (Value.str (Str.ofString "postkeep.dates") 368) none (Value.ref 150) Value.none 0)) #[],
Obj.mk (Value.type "tuple") none (Data.seq #[]) #[],
Obj.mk Value.none none (Data.fields #[]) #[],
Obj.mk (Value.type "tuple") none (Data.seq #[Value.str (Str.ofString "self") 430]) #[],
Obj.mk (Value.type "tuple") none (Data.seq #[]) #[],
Obj.mk Value.none none (Data.func (FuncData.mk (Str.ofString "told") (Str.ofString "Moment.told") (sArgs (inAt 27 1)) (sBody (inAt 27 1)) (sScope (inAt 27 1)) 0 [] Value.none Value.none Value.none Value.none none Value.none Value.none 0)) #[],
Obj.mk (Value.type "code") none (Data.fields #[Value.str (Str.ofString "told") 427, Value.str (Str.ofString "Moment.told") 428, Value.str (Str.ofString "/claim/cut.py") 429, Value.int 122 0, Value.int 1 0, Value.int 0 0, Value.int 0 0, Value.int 3 0, Value.ref 152, Value.bool true, Value.int 181 0, Value.ref 153, Value.none, Value.ref 154, Value.ref 155, Value.ref 156, Value.int 431 0, Value.int 122 0, Value.str (Str.ofString "/claim/cut.py") 432]) #[],
Obj.mk (Value.type "function") none (Data.func (FuncData.mk (Str.ofString "told") (Str.ofString "Moment.told") (sArgs (inAt 27 1)) (sBody (inAt 27 1)) (sScope (inAt 27 1)) 3 [] Value.none Value.none Value.none (Value.str (Str.ofString "postkeep.dates") 368) none (Value.ref 157) Value.none 0)) #[],
Obj.mk (Value.type "tuple") none (Data.seq #[Value.str (Str.ofString "day") 434, Value.str (Str.ofString "hour") 435, Value.str (Str.ofString "minute") 436, Value.str (Str.ofString "month") 437, Value.str (Str.ofString "second") 438, Value.str (Str.ofString "year") 439, Value.str (Str.ofString "zone") 440]) #[]]
noncomputable def endO5 (P : Params) : List Obj := [
Obj.mk (Value.type "dict") none (Data.dict #[DictEntry.mk (PyData.keyHash P (Str.ofString "__module__")) (Value.str (Str.ofString "__module__") 408) (Value.str (Str.ofString "postkeep.dates") 368), DictEntry.mk (PyData.keyHash P (Str.ofString "__firstlineno__")) (Value.str (Str.ofString "__firstlineno__") 412) (Value.int 111 411), DictEntry.mk (PyData.keyHash P (Str.ofString "__init__")) (Value.str (Str.ofString "__init__") 426) (Value.ref 151), DictEntry.mk (PyData.keyHash P (Str.ofString "told")) (Value.str (Str.ofString "told") 433) (Value.ref 158), DictEntry.mk (PyData.keyHash P (Str.ofString "__static_attributes__")) (Value.str (Str.ofString "__static_attributes__") 441) (Value.ref 159), DictEntry.mk (PyData.keyHash P (Str.ofString "__dict__")) (Value.str (Str.ofString "__dict__") 443) (Value.ref 162), DictEntry.mk (PyData.keyHash P (Str.ofString "__weakref__")) (Value.str (Str.ofString "__weakref__") 445) (Value.ref 163), DictEntry.mk (PyData.keyHash P (Str.ofString "__doc__")) (Value.str (Str.ofString "__doc__") 446) Value.none] 4) #[],
Obj.mk (Value.type "type") none (Data.cls (ClassData.mk (Str.ofString "Moment") [Value.type "object"] [Value.ref 161, Value.type "object"] 160 (Str.ofString "Moment") true [] [] false none false)) #[none, none, some (Value.str (Str.ofString "Moment") 401), some (Value.str (Str.ofString "Moment") 409), some (Value.builtin "object.__new__"), some (Value.bool true)],
Obj.mk (Value.type "getset_descriptor") none (Data.fields #[Value.str (Str.ofString "__dict__") 442, Value.ref 161, Value.builtin "function.__dict__", Value.builtin "function.__dict__#set"]) #[],
Obj.mk (Value.type "getset_descriptor") none (Data.fields #[Value.str (Str.ofString "__weakref__") 444, Value.ref 161, Value.builtin "ExceptionGroup.__weakref__", Value.none]) #[],
Obj.mk (Value.type "super") none (Data.fields #[Value.ref 161, Value.ref 161, Value.ref 161]) #[],
Obj.mk (Value.type "builtin_function_or_method") none (Data.fields #[Value.builtin "object.__init_subclass__", Value.ref 161]) #[],
Obj.mk (Value.type "tuple") none (Data.seq #[]) #[],
Obj.mk Value.none none (Data.fields #[]) #[],
Obj.mk (Value.type "tuple") none (Data.seq #[Value.str (Str.ofString "year") 452]) #[],
Obj.mk (Value.type "tuple") none (Data.seq #[]) #[],
Obj.mk Value.none none (Data.func (FuncData.mk (Str.ofString "is_leap") (Str.ofString "is_leap") (sArgs (topAt 28)) (sBody (topAt 28)) (sScope (topAt 28)) 0 [] Value.none Value.none Value.none Value.none none Value.none Value.none 0)) #[],
Obj.mk (Value.type "code") none (Data.fields #[Value.str (Str.ofString "is_leap") 449, Value.str (Str.ofString "is_leap") 450, Value.str (Str.ofString "/claim/cut.py") 451, Value.int 124 0, Value.int 1 0, Value.int 0 0, Value.int 0 0, Value.int 3 0, Value.ref 166, Value.bool true, Value.int 181 0, Value.ref 167, Value.none, Value.ref 168, Value.ref 169, Value.ref 170, Value.int 453 0, Value.int 124 0, Value.str (Str.ofString "/claim/cut.py") 454]) #[],
Obj.mk (Value.type "function") none (Data.func (FuncData.mk (Str.ofString "is_leap") (Str.ofString "is_leap") (sArgs (topAt 28)) (sBody (topAt 28)) (sScope (topAt 28)) 3 [] Value.none Value.none Value.none (Value.str (Str.ofString "postkeep.dates") 368) none (Value.ref 171) Value.none 0)) #[],
Obj.mk (Value.type "tuple") none (Data.seq #[]) #[],
Obj.mk Value.none none (Data.fields #[]) #[],
Obj.mk (Value.type "tuple") none (Data.seq #[Value.str (Str.ofString "year") 459, Value.str (Str.ofString "month") 460]) #[],
Obj.mk (Value.type "tuple") none (Data.seq #[]) #[],
Obj.mk Value.none none (Data.func (FuncData.mk (Str.ofString "month_length") (Str.ofString "month_length") (sArgs (topAt 29)) (sBody (topAt 29)) (sScope (topAt 29)) 0 [] Value.none Value.none Value.none Value.none none Value.none Value.none 0)) #[],
Obj.mk (Value.type "code") none (Data.fields #[Value.str (Str.ofString "month_length") 456, Value.str (Str.ofString "month_length") 457, Value.str (Str.ofString "/claim/cut.py") 458, Value.int 126 0, Value.int 2 0, Value.int 0 0, Value.int 0 0, Value.int 3 0, Value.ref 173, Value.bool true, Value.int 181 0, Value.ref 174, Value.none, Value.ref 175, Value.ref 176, Value.ref 177, Value.int 461 0, Value.int 126 0, Value.str (Str.ofString "/claim/cut.py") 462]) #[],
Obj.mk (Value.type "function") none (Data.func (FuncData.mk (Str.ofString "month_length") (Str.ofString "month_length") (sArgs (topAt 29)) (sBody (topAt 29)) (sScope (topAt 29)) 3 [] Value.none Value.none Value.none (Value.str (Str.ofString "postkeep.dates") 368) none (Value.ref 178) Value.none 0)) #[],
Obj.mk (Value.type "tuple") none (Data.seq #[]) #[],
Obj.mk Value.none none (Data.fields #[]) #[],
Obj.mk (Value.type "tuple") none (Data.seq #[Value.str (Str.ofString "year") 467, Value.str (Str.ofString "past") 468]) #[],
Obj.mk (Value.type "tuple") none (Data.seq #[]) #[],
Obj.mk Value.none none (Data.func (FuncData.mk (Str.ofString "days_before_year") (Str.ofString "days_before_year") (sArgs (topAt 30)) (sBody (topAt 30)) (sScope (topAt 30)) 0 [] Value.none Value.none Value.none Value.none none Value.none Value.none 0)) #[],
Obj.mk (Value.type "code") none (Data.fields #[Value.str (Str.ofString "days_before_year") 464, Value.str (Str.ofString "days_before_year") 465, Value.str (Str.ofString "/claim/cut.py") 466, Value.int 130 0, Value.int 1 0, Value.int 0 0, Value.int 0 0, Value.int 3 0, Value.ref 180, Value.bool true, Value.int 181 0, Value.ref 181, Value.none, Value.ref 182, Value.ref 183, Value.ref 184, Value.int 469 0, Value.int 130 0, Value.str (Str.ofString "/claim/cut.py") 470]) #[],
Obj.mk (Value.type "function") none (Data.func (FuncData.mk (Str.ofString "days_before_year") (Str.ofString "days_before_year") (sArgs (topAt 30)) (sBody (topAt 30)) (sScope (topAt 30)) 3 [] Value.none Value.none Value.none (Value.str (Str.ofString "postkeep.dates") 368) none (Value.ref 185) Value.none 0)) #[],
Obj.mk (Value.type "tuple") none (Data.seq #[]) #[],
Obj.mk Value.none none (Data.fields #[]) #[],
Obj.mk (Value.type "tuple") none (Data.seq #[Value.str (Str.ofString "year") 475, Value.str (Str.ofString "month") 476, Value.str (Str.ofString "day") 477, Value.str (Str.ofString "total") 478, Value.str (Str.ofString "earlier") 479]) #[],
Obj.mk (Value.type "tuple") none (Data.seq #[]) #[],
Obj.mk Value.none none (Data.func (FuncData.mk (Str.ofString "day_number") (Str.ofString "day_number") (sArgs (topAt 31)) (sBody (topAt 31)) (sScope (topAt 31)) 0 [] Value.none Value.none Value.none Value.none none Value.none Value.none 0)) #[]]
noncomputable def endO6 (P : Params) : List Obj := [
Obj.mk (Value.type "code") none (Data.fields #[Value.str (Str.ofString "day_number") 472, Value.str (Str.ofString "day_number") 473, Value.str (Str.ofString "/claim/cut.py") 474, Value.int 133 0, Value.int 3 0, Value.int 0 0, Value.int 0 0, Value.int 3 0, Value.ref 187, Value.bool true, Value.int 181 0, Value.ref 188, Value.none, Value.ref 189, Value.ref 190, Value.ref 191, Value.int 480 0, Value.int 133 0, Value.str (Str.ofString "/claim/cut.py") 481]) #[],
Obj.mk (Value.type "function") none (Data.func (FuncData.mk (Str.ofString "day_number") (Str.ofString "day_number") (sArgs (topAt 31)) (sBody (topAt 31)) (sScope (topAt 31)) 3 [] Value.none Value.none Value.none (Value.str (Str.ofString "postkeep.dates") 368) none (Value.ref 192) Value.none 0)) #[],
Obj.mk (Value.type "tuple") none (Data.seq #[]) #[],
Obj.mk Value.none none (Data.fields #[]) #[],
Obj.mk (Value.type "tuple") none (Data.seq #[Value.str (Str.ofString "year") 486, Value.str (Str.ofString "month") 487, Value.str (Str.ofString "day") 488]) #[],
Obj.mk (Value.type "tuple") none (Data.seq #[]) #[],
Obj.mk Value.none none (Data.func (FuncData.mk (Str.ofString "weekday") (Str.ofString "weekday") (sArgs (topAt 32)) (sBody (topAt 32)) (sScope (topAt 32)) 0 [] Value.none Value.none Value.none Value.none none Value.none Value.none 0)) #[],
Obj.mk (Value.type "code") none (Data.fields #[Value.str (Str.ofString "weekday") 483, Value.str (Str.ofString "weekday") 484, Value.str (Str.ofString "/claim/cut.py") 485, Value.int 138 0, Value.int 3 0, Value.int 0 0, Value.int 0 0, Value.int 3 0, Value.ref 194, Value.bool true, Value.int 181 0, Value.ref 195, Value.none, Value.ref 196, Value.ref 197, Value.ref 198, Value.int 489 0, Value.int 138 0, Value.str (Str.ofString "/claim/cut.py") 490]) #[],
Obj.mk (Value.type "function") none (Data.func (FuncData.mk (Str.ofString "weekday") (Str.ofString "weekday") (sArgs (topAt 32)) (sBody (topAt 32)) (sScope (topAt 32)) 3 [] Value.none Value.none Value.none (Value.str (Str.ofString "postkeep.dates") 368) none (Value.ref 199) Value.none 0)) #[],
Obj.mk (Value.type "tuple") none (Data.seq #[]) #[],
Obj.mk Value.none none (Data.fields #[]) #[],
Obj.mk (Value.type "tuple") none (Data.seq #[Value.str (Str.ofString "year") 495, Value.str (Str.ofString "month") 496, Value.str (Str.ofString "day") 497]) #[],
Obj.mk (Value.type "tuple") none (Data.seq #[]) #[],
Obj.mk Value.none none (Data.func (FuncData.mk (Str.ofString "is_day") (Str.ofString "is_day") (sArgs (topAt 33)) (sBody (topAt 33)) (sScope (topAt 33)) 0 [] Value.none Value.none Value.none Value.none none Value.none Value.none 0)) #[],
Obj.mk (Value.type "code") none (Data.fields #[Value.str (Str.ofString "is_day") 492, Value.str (Str.ofString "is_day") 493, Value.str (Str.ofString "/claim/cut.py") 494, Value.int 140 0, Value.int 3 0, Value.int 0 0, Value.int 0 0, Value.int 3 0, Value.ref 201, Value.bool true, Value.int 181 0, Value.ref 202, Value.none, Value.ref 203, Value.ref 204, Value.ref 205, Value.int 498 0, Value.int 140 0, Value.str (Str.ofString "/claim/cut.py") 499]) #[],
Obj.mk (Value.type "function") none (Data.func (FuncData.mk (Str.ofString "is_day") (Str.ofString "is_day") (sArgs (topAt 33)) (sBody (topAt 33)) (sScope (topAt 33)) 3 [] Value.none Value.none Value.none (Value.str (Str.ofString "postkeep.dates") 368) none (Value.ref 206) Value.none 0)) #[],
Obj.mk (Value.type "tuple") none (Data.seq #[]) #[],
Obj.mk Value.none none (Data.fields #[]) #[],
Obj.mk (Value.type "tuple") none (Data.seq #[Value.str (Str.ofString "hour") 504, Value.str (Str.ofString "minute") 505, Value.str (Str.ofString "second") 506]) #[],
Obj.mk (Value.type "tuple") none (Data.seq #[]) #[],
Obj.mk Value.none none (Data.func (FuncData.mk (Str.ofString "is_time") (Str.ofString "is_time") (sArgs (topAt 34)) (sBody (topAt 34)) (sScope (topAt 34)) 0 [] Value.none Value.none Value.none Value.none none Value.none Value.none 0)) #[],
Obj.mk (Value.type "code") none (Data.fields #[Value.str (Str.ofString "is_time") 501, Value.str (Str.ofString "is_time") 502, Value.str (Str.ofString "/claim/cut.py") 503, Value.int 142 0, Value.int 3 0, Value.int 0 0, Value.int 0 0, Value.int 3 0, Value.ref 208, Value.bool true, Value.int 181 0, Value.ref 209, Value.none, Value.ref 210, Value.ref 211, Value.ref 212, Value.int 507 0, Value.int 142 0, Value.str (Str.ofString "/claim/cut.py") 508]) #[],
Obj.mk (Value.type "function") none (Data.func (FuncData.mk (Str.ofString "is_time") (Str.ofString "is_time") (sArgs (topAt 34)) (sBody (topAt 34)) (sScope (topAt 34)) 3 [] Value.none Value.none Value.none (Value.str (Str.ofString "postkeep.dates") 368) none (Value.ref 213) Value.none 0)) #[],
Obj.mk (Value.type "tuple") none (Data.seq #[]) #[],
Obj.mk Value.none none (Data.fields #[]) #[],
Obj.mk (Value.type "tuple") none (Data.seq #[Value.str (Str.ofString "moment") 513, Value.str (Str.ofString "is_right") 514]) #[],
Obj.mk (Value.type "tuple") none (Data.seq #[]) #[],
Obj.mk Value.none none (Data.func (FuncData.mk (Str.ofString "check_moment") (Str.ofString "check_moment") (sArgs (topAt 35)) (sBody (topAt 35)) (sScope (topAt 35)) 0 [] Value.none Value.none Value.none Value.none none Value.none Value.none 0)) #[],
Obj.mk (Value.type "code") none (Data.fields #[Value.str (Str.ofString "check_moment") 510, Value.str (Str.ofString "check_moment") 511, Value.str (Str.ofString "/claim/cut.py") 512, Value.int 144 0, Value.int 1 0, Value.int 0 0, Value.int 0 0, Value.int 3 0, Value.ref 215, Value.bool true, Value.int 181 0, Value.ref 216, Value.none, Value.ref 217, Value.ref 218, Value.ref 219, Value.int 515 0, Value.int 144 0, Value.str (Str.ofString "/claim/cut.py") 516]) #[],
Obj.mk (Value.type "function") none (Data.func (FuncData.mk (Str.ofString "check_moment") (Str.ofString "check_moment") (sArgs (topAt 35)) (sBody (topAt 35)) (sScope (topAt 35)) 3 [] Value.none Value.none Value.none (Value.str (Str.ofString "postkeep.dates") 368) none (Value.ref 220) Value.none 0)) #[],
Obj.mk (Value.type "tuple") none (Data.seq #[]) #[],
Obj.mk Value.none none (Data.fields #[]) #[]]
noncomputable def endO7 (P : Params) : List Obj := [
Obj.mk Value.none none (Data.func (FuncData.mk (Str.ofString "month_number") (Str.ofString "month_number") (sArgs (topAt 36)) (sBody (topAt 36)) (sScope (topAt 36)) 0 [] Value.none Value.none Value.none Value.none none Value.none Value.none 0)) #[],
Obj.mk (Value.type "code") none (Data.fields #[Value.str (Str.ofString "month_number") 518, Value.str (Str.ofString "month_number") 519, Value.str (Str.ofString "/claim/cut.py") 520, Value.int 148 0, Value.int 1 0, Value.int 0 0, Value.int 0 0, Value.int 3 0, Value.ref 222, Value.bool true, Value.int 181 0, Value.ref 223, Value.none, Value.none, Value.none, Value.ref 224, Value.int 521 0, Value.int 148 0, Value.str (Str.ofString "/claim/cut.py") 522]) #[],
Obj.mk (Value.type "function") none (Data.func (FuncData.mk (Str.ofString "month_number") (Str.ofString "month_number") (sArgs (topAt 36)) (sBody (topAt 36)) (sScope (topAt 36)) 3 [] Value.none Value.none Value.none (Value.str (Str.ofString "postkeep.dates") 368) none (Value.ref 225) Value.none 0)) #[],
Obj.mk (Value.type "tuple") none (Data.seq #[]) #[],
Obj.mk Value.none none (Data.fields #[]) #[],
Obj.mk Value.none none (Data.func (FuncData.mk (Str.ofString "is_day_name") (Str.ofString "is_day_name") (sArgs (topAt 37)) (sBody (topAt 37)) (sScope (topAt 37)) 0 [] Value.none Value.none Value.none Value.none none Value.none Value.none 0)) #[],
Obj.mk (Value.type "code") none (Data.fields #[Value.str (Str.ofString "is_day_name") 524, Value.str (Str.ofString "is_day_name") 525, Value.str (Str.ofString "/claim/cut.py") 526, Value.int 151 0, Value.int 1 0, Value.int 0 0, Value.int 0 0, Value.int 3 0, Value.ref 227, Value.bool true, Value.int 181 0, Value.ref 228, Value.none, Value.none, Value.none, Value.ref 229, Value.int 527 0, Value.int 151 0, Value.str (Str.ofString "/claim/cut.py") 528]) #[],
Obj.mk (Value.type "function") none (Data.func (FuncData.mk (Str.ofString "is_day_name") (Str.ofString "is_day_name") (sArgs (topAt 37)) (sBody (topAt 37)) (sScope (topAt 37)) 3 [] Value.none Value.none Value.none (Value.str (Str.ofString "postkeep.dates") 368) none (Value.ref 230) Value.none 0)) #[],
Obj.mk (Value.type "tuple") none (Data.seq #[]) #[],
Obj.mk Value.none none (Data.fields #[]) #[],
Obj.mk (Value.type "tuple") none (Data.seq #[Value.str (Str.ofString "number") 533, Value.str (Str.ofString "width") 534, Value.str (Str.ofString "figures") 535]) #[],
Obj.mk (Value.type "tuple") none (Data.seq #[]) #[],
Obj.mk Value.none none (Data.func (FuncData.mk (Str.ofString "padded") (Str.ofString "padded") (sArgs (topAt 38)) (sBody (topAt 38)) (sScope (topAt 38)) 0 [] Value.none Value.none Value.none Value.none none Value.none Value.none 0)) #[],
Obj.mk (Value.type "code") none (Data.fields #[Value.str (Str.ofString "padded") 530, Value.str (Str.ofString "padded") 531, Value.str (Str.ofString "/claim/cut.py") 532, Value.int 153 0, Value.int 2 0, Value.int 0 0, Value.int 0 0, Value.int 3 0, Value.ref 232, Value.bool true, Value.int 181 0, Value.ref 233, Value.none, Value.ref 234, Value.ref 235, Value.ref 236, Value.int 536 0, Value.int 153 0, Value.str (Str.ofString "/claim/cut.py") 537]) #[],
Obj.mk (Value.type "function") none (Data.func (FuncData.mk (Str.ofString "padded") (Str.ofString "padded") (sArgs (topAt 38)) (sBody (topAt 38)) (sScope (topAt 38)) 3 [] Value.none Value.none Value.none (Value.str (Str.ofString "postkeep.dates") 368) none (Value.ref 237) Value.none 0)) #[],
Obj.mk (Value.type "tuple") none (Data.seq #[]) #[],
Obj.mk Value.none none (Data.fields #[]) #[],
Obj.mk (Value.type "tuple") none (Data.seq #[Value.str (Str.ofString "zone") 542]) #[],
Obj.mk (Value.type "tuple") none (Data.seq #[]) #[],
Obj.mk Value.none none (Data.func (FuncData.mk (Str.ofString "zone_text") (Str.ofString "zone_text") (sArgs (topAt 39)) (sBody (topAt 39)) (sScope (topAt 39)) 0 [] Value.none Value.none Value.none Value.none none Value.none Value.none 0)) #[],
Obj.mk (Value.type "code") none (Data.fields #[Value.str (Str.ofString "zone_text") 539, Value.str (Str.ofString "zone_text") 540, Value.str (Str.ofString "/claim/cut.py") 541, Value.int 156 0, Value.int 1 0, Value.int 0 0, Value.int 0 0, Value.int 3 0, Value.ref 239, Value.bool true, Value.int 181 0, Value.ref 240, Value.none, Value.ref 241, Value.ref 242, Value.ref 243, Value.int 543 0, Value.int 156 0, Value.str (Str.ofString "/claim/cut.py") 544]) #[],
Obj.mk (Value.type "function") none (Data.func (FuncData.mk (Str.ofString "zone_text") (Str.ofString "zone_text") (sArgs (topAt 39)) (sBody (topAt 39)) (sScope (topAt 39)) 3 [] Value.none Value.none Value.none (Value.str (Str.ofString "postkeep.dates") 368) none (Value.ref 244) Value.none 0)) #[],
Obj.mk (Value.type "tuple") none (Data.seq #[]) #[],
Obj.mk Value.none none (Data.fields #[]) #[],
Obj.mk Value.none none (Data.func (FuncData.mk (Str.ofString "clock_text") (Str.ofString "clock_text") (sArgs (topAt 40)) (sBody (topAt 40)) (sScope (topAt 40)) 0 [] Value.none Value.none Value.none Value.none none Value.none Value.none 0)) #[],
Obj.mk (Value.type "code") none (Data.fields #[Value.str (Str.ofString "clock_text") 546, Value.str (Str.ofString "clock_text") 547, Value.str (Str.ofString "/claim/cut.py") 548, Value.int 158 0, Value.int 1 0, Value.int 0 0, Value.int 0 0, Value.int 3 0, Value.ref 246, Value.bool true, Value.int 181 0, Value.ref 247, Value.none, Value.none, Value.none, Value.ref 248, Value.int 549 0, Value.int 158 0, Value.str (Str.ofString "/claim/cut.py") 550]) #[],
Obj.mk (Value.type "function") none (Data.func (FuncData.mk (Str.ofString "clock_text") (Str.ofString "clock_text") (sArgs (topAt 40)) (sBody (topAt 40)) (sScope (topAt 40)) 3 [] Value.none Value.none Value.none (Value.str (Str.ofString "postkeep.dates") 368) none (Value.ref 249) Value.none 0)) #[],
Obj.mk (Value.type "tuple") none (Data.seq #[]) #[],
Obj.mk Value.none none (Data.fields #[]) #[],
Obj.mk Value.none none (Data.func (FuncData.mk (Str.ofString "is_figures") (Str.ofString "is_figures") (sArgs (topAt 41)) (sBody (topAt 41)) (sScope (topAt 41)) 0 [] Value.none Value.none Value.none Value.none none Value.none Value.none 0)) #[],
Obj.mk (Value.type "code") none (Data.fields #[Value.str (Str.ofString "is_figures") 552, Value.str (Str.ofString "is_figures") 553, Value.str (Str.ofString "/claim/cut.py") 554, Value.int 161 0, Value.int 1 0, Value.int 0 0, Value.int 0 0, Value.int 3 0, Value.ref 251, Value.bool true, Value.int 181 0, Value.ref 252, Value.none, Value.none, Value.none, Value.ref 253, Value.int 555 0, Value.int 161 0, Value.str (Str.ofString "/claim/cut.py") 556]) #[],
Obj.mk (Value.type "function") none (Data.func (FuncData.mk (Str.ofString "is_figures") (Str.ofString "is_figures") (sArgs (topAt 41)) (sBody (topAt 41)) (sScope (topAt 41)) 3 [] Value.none Value.none Value.none (Value.str (Str.ofString "postkeep.dates") 368) none (Value.ref 254) Value.none 0)) #[]]
noncomputable def endO8 (P : Params) : List Obj := [
Obj.mk (Value.type "tuple") none (Data.seq #[]) #[],
Obj.mk Value.none none (Data.fields #[]) #[],
Obj.mk (Value.type "tuple") none (Data.seq #[Value.str (Str.ofString "text") 561, Value.str (Str.ofString "minutes") 562]) #[],
Obj.mk (Value.type "tuple") none (Data.seq #[]) #[],
Obj.mk Value.none none (Data.func (FuncData.mk (Str.ofString "zone_in") (Str.ofString "zone_in") (sArgs (topAt 42)) (sBody (topAt 42)) (sScope (topAt 42)) 0 [] Value.none Value.none Value.none Value.none none Value.none Value.none 0)) #[],
Obj.mk (Value.type "code") none (Data.fields #[Value.str (Str.ofString "zone_in") 558, Value.str (Str.ofString "zone_in") 559, Value.str (Str.ofString "/claim/cut.py") 560, Value.int 163 0, Value.int 1 0, Value.int 0 0, Value.int 0 0, Value.int 3 0, Value.ref 256, Value.bool true, Value.int 181 0, Value.ref 257, Value.none, Value.ref 258, Value.ref 259, Value.ref 260, Value.int 563 0, Value.int 163 0, Value.str (Str.ofString "/claim/cut.py") 564]) #[],
Obj.mk (Value.type "function") none (Data.func (FuncData.mk (Str.ofString "zone_in") (Str.ofString "zone_in") (sArgs (topAt 42)) (sBody (topAt 42)) (sScope (topAt 42)) 3 [] Value.none Value.none Value.none (Value.str (Str.ofString "postkeep.dates") 368) none (Value.ref 261) Value.none 0)) #[],
Obj.mk (Value.type "tuple") none (Data.seq #[]) #[],
Obj.mk Value.none none (Data.fields #[]) #[],
Obj.mk Value.none none (Data.func (FuncData.mk (Str.ofString "named_zone") (Str.ofString "named_zone") (sArgs (topAt 43)) (sBody (topAt 43)) (sScope (topAt 43)) 0 [] Value.none Value.none Value.none Value.none none Value.none Value.none 0)) #[],
Obj.mk (Value.type "code") none (Data.fields #[Value.str (Str.ofString "named_zone") 566, Value.str (Str.ofString "named_zone") 567, Value.str (Str.ofString "/claim/cut.py") 568, Value.int 168 0, Value.int 1 0, Value.int 0 0, Value.int 0 0, Value.int 3 0, Value.ref 263, Value.bool true, Value.int 181 0, Value.ref 264, Value.none, Value.none, Value.none, Value.ref 265, Value.int 569 0, Value.int 168 0, Value.str (Str.ofString "/claim/cut.py") 570]) #[],
Obj.mk (Value.type "function") none (Data.func (FuncData.mk (Str.ofString "named_zone") (Str.ofString "named_zone") (sArgs (topAt 43)) (sBody (topAt 43)) (sScope (topAt 43)) 3 [] Value.none Value.none Value.none (Value.str (Str.ofString "postkeep.dates") 368) none (Value.ref 266) Value.none 0)) #[],
Obj.mk (Value.type "tuple") none (Data.seq #[]) #[],
Obj.mk (Value.type "builtin_function_or_method") none (Data.fields #[Value.builtin "type.__prepare__", Value.type "type"]) #[],
Obj.mk (Value.type "dict") none (Data.dict #[DictEntry.mk (PyData.keyHash P (Str.ofString "__module__")) (Value.str (Str.ofString "__module__") 579) (Value.str (Str.ofString "postkeep.dates") 368), DictEntry.mk (PyData.keyHash P (Str.ofString "__qualname__")) (Value.str (Str.ofString "__qualname__") 581) (Value.str (Str.ofString "DateReader") 580), DictEntry.mk (PyData.keyHash P (Str.ofString "__firstlineno__")) (Value.str (Str.ofString "__firstlineno__") 583) (Value.int 173 582), DictEntry.mk (PyData.keyHash P (Str.ofString "__init__")) (Value.str (Str.ofString "__init__") 591) (Value.ref 281), DictEntry.mk (PyData.keyHash P (Str.ofString "place")) (Value.str (Str.ofString "place") 598) (Value.ref 288), DictEntry.mk (PyData.keyHash P (Str.ofString "atom")) (Value.str (Str.ofString "atom") 604) (Value.ref 293), DictEntry.mk (PyData.keyHash P (Str.ofString "skip")) (Value.str (Str.ofString "skip") 612) (Value.ref 300), DictEntry.mk (PyData.keyHash P (Str.ofString "number")) (Value.str (Str.ofString "number") 622) (Value.ref 307), DictEntry.mk (PyData.keyHash P (Str.ofString "need")) (Value.str (Str.ofString "need") 631) (Value.ref 314), DictEntry.mk (PyData.keyHash P (Str.ofString "__static_attributes__")) (Value.str (Str.ofString "__static_attributes__") 635) (Value.ref 315)] 10) #[],
Obj.mk (Value.type "tuple") none (Data.seq #[]) #[],
Obj.mk Value.none none (Data.fields #[Value.int 175 0, Value.int 4 0, Value.ref 280, Value.int 180 0, Value.int 4 0, Value.ref 287, Value.int 183 0, Value.int 4 0, Value.ref 292, Value.int 188 0, Value.int 4 0, Value.ref 299, Value.int 194 0, Value.int 4 0, Value.ref 306, Value.int 201 0, Value.int 4 0, Value.ref 313]) #[],
Obj.mk (Value.type "code") none (Data.fields #[Value.str (Str.ofString "DateReader") 574, Value.str (Str.ofString "DateReader") 575, Value.str (Str.ofString "/claim/cut.py") 576, Value.int 173 0, Value.int 0 0, Value.int 0 0, Value.int 0 0, Value.int 0 0, Value.ref 271, Value.bool false, Value.int 181 0, Value.ref 272, Value.none, Value.none, Value.none, Value.none, Value.int 577 0, Value.int 173 0, Value.str (Str.ofString "/claim/cut.py") 578]) #[],
Obj.mk (Value.type "frame") none Data.plain #[some (Value.ref 273), some (Value.ref 3), some (Value.ref 270), none, some (Value.str (Str.ofString "postkeep.dates") 368), none, some (Value.ref 0)],
Obj.mk (Value.type "tuple") none (Data.seq #[]) #[],
Obj.mk Value.none none (Data.fields #[]) #[],
Obj.mk (Value.type "tuple") none (Data.seq #[Value.str (Str.ofString "self") 587, Value.str (Str.ofString "octets") 588]) #[],
Obj.mk (Value.type "tuple") none (Data.seq #[]) #[],
Obj.mk Value.none none (Data.func (FuncData.mk (Str.ofString "__init__") (Str.ofString "DateReader.__init__") (sArgs (inAt 44 0)) (sBody (inAt 44 0)) (sScope (inAt 44 0)) 0 [] Value.none Value.none Value.none Value.none none Value.none Value.none 0)) #[],
Obj.mk (Value.type "code") none (Data.fields #[Value.str (Str.ofString "__init__") 584, Value.str (Str.ofString "DateReader.__init__") 585, Value.str (Str.ofString "/claim/cut.py") 586, Value.int 175 0, Value.int 2 0, Value.int 0 0, Value.int 0 0, Value.int 3 0, Value.ref 275, Value.bool true, Value.int 181 0, Value.ref 276, Value.none, Value.ref 277, Value.ref 278, Value.ref 279, Value.int 589 0, Value.int 175 0, Value.str (Str.ofString "/claim/cut.py") 590]) #[],
Obj.mk (Value.type "function") none (Data.func (FuncData.mk (Str.ofString "__init__") (Str.ofString "DateReader.__init__") (sArgs (inAt 44 0)) (sBody (inAt 44 0)) (sScope (inAt 44 0)) 3 [] Value.none Value.none Value.none (Value.str (Str.ofString "postkeep.dates") 368) none (Value.ref 280) Value.none 0)) #[],
Obj.mk (Value.type "tuple") none (Data.seq #[]) #[],
Obj.mk Value.none none (Data.fields #[]) #[],
Obj.mk (Value.type "tuple") none (Data.seq #[Value.str (Str.ofString "self") 595]) #[],
Obj.mk (Value.type "tuple") none (Data.seq #[]) #[],
Obj.mk Value.none none (Data.func (FuncData.mk (Str.ofString "place") (Str.ofString "DateReader.place") (sArgs (inAt 44 1)) (sBody (inAt 44 1)) (sScope (inAt 44 1)) 0 [] Value.none Value.none Value.none Value.none none Value.none Value.none 0)) #[],
Obj.mk (Value.type "code") none (Data.fields #[Value.str (Str.ofString "place") 592, Value.str (Str.ofString "DateReader.place") 593, Value.str (Str.ofString "/claim/cut.py") 594, Value.int 180 0, Value.int 1 0, Value.int 0 0, Value.int 0 0, Value.int 3 0, Value.ref 282, Value.bool true, Value.int 181 0, Value.ref 283, Value.none, Value.ref 284, Value.ref 285, Value.ref 286, Value.int 596 0, Value.int 180 0, Value.str (Str.ofString "/claim/cut.py") 597]) #[]]
noncomputable def endO9 (P : Params) : List Obj := [
Obj.mk (Value.type "function") none (Data.func (FuncData.mk (Str.ofString "place") (Str.ofString "DateReader.place") (sArgs (inAt 44 1)) (sBody (inAt 44 1)) (sScope (inAt 44 1)) 3 [] Value.none Value.none Value.none (Value.str (Str.ofString "postkeep.dates") 368) none (Value.ref 287) Value.none 0)) #[],
Obj.mk (Value.type "tuple") none (Data.seq #[]) #[],
Obj.mk Value.none none (Data.fields #[]) #[],
Obj.mk Value.none none (Data.func (FuncData.mk (Str.ofString "atom") (Str.ofString "DateReader.atom") (sArgs (inAt 44 2)) (sBody (inAt 44 2)) (sScope (inAt 44 2)) 0 [] Value.none Value.none Value.none Value.none none Value.none Value.none 0)) #[],
Obj.mk (Value.type "code") none (Data.fields #[Value.str (Str.ofString "atom") 599, Value.str (Str.ofString "DateReader.atom") 600, Value.str (Str.ofString "/claim/cut.py") 601, Value.int 183 0, Value.int 1 0, Value.int 0 0, Value.int 0 0, Value.int 3 0, Value.ref 289, Value.bool true, Value.int 181 0, Value.ref 290, Value.none, Value.none, Value.none, Value.ref 291, Value.int 602 0, Value.int 183 0, Value.str (Str.ofString "/claim/cut.py") 603]) #[],
Obj.mk (Value.type "function") none (Data.func (FuncData.mk (Str.ofString "atom") (Str.ofString "DateReader.atom") (sArgs (inAt 44 2)) (sBody (inAt 44 2)) (sScope (inAt 44 2)) 3 [] Value.none Value.none Value.none (Value.str (Str.ofString "postkeep.dates") 368) none (Value.ref 292) Value.none 0)) #[],
Obj.mk (Value.type "tuple") none (Data.seq #[]) #[],
Obj.mk Value.none none (Data.fields #[]) #[],
Obj.mk (Value.type "tuple") none (Data.seq #[Value.str (Str.ofString "self") 608, Value.str (Str.ofString "sign") 609]) #[],
Obj.mk (Value.type "tuple") none (Data.seq #[]) #[],
Obj.mk Value.none none (Data.func (FuncData.mk (Str.ofString "skip") (Str.ofString "DateReader.skip") (sArgs (inAt 44 3)) (sBody (inAt 44 3)) (sScope (inAt 44 3)) 0 [] Value.none Value.none Value.none Value.none none Value.none Value.none 0)) #[],
Obj.mk (Value.type "code") none (Data.fields #[Value.str (Str.ofString "skip") 605, Value.str (Str.ofString "DateReader.skip") 606, Value.str (Str.ofString "/claim/cut.py") 607, Value.int 188 0, Value.int 2 0, Value.int 0 0, Value.int 0 0, Value.int 3 0, Value.ref 294, Value.bool true, Value.int 181 0, Value.ref 295, Value.none, Value.ref 296, Value.ref 297, Value.ref 298, Value.int 610 0, Value.int 188 0, Value.str (Str.ofString "/claim/cut.py") 611]) #[],
Obj.mk (Value.type "function") none (Data.func (FuncData.mk (Str.ofString "skip") (Str.ofString "DateReader.skip") (sArgs (inAt 44 3)) (sBody (inAt 44 3)) (sScope (inAt 44 3)) 3 [] Value.none Value.none Value.none (Value.str (Str.ofString "postkeep.dates") 368) none (Value.ref 299) Value.none 0)) #[],
Obj.mk (Value.type "tuple") none (Data.seq #[]) #[],
Obj.mk Value.none none (Data.fields #[]) #[],
Obj.mk (Value.type "tuple") none (Data.seq #[Value.str (Str.ofString "self") 616, Value.str (Str.ofString "least_figures") 617, Value.str (Str.ofString "most_figures") 618, Value.str (Str.ofString "text") 619]) #[],
Obj.mk (Value.type "tuple") none (Data.seq #[]) #[],
Obj.mk Value.none none (Data.func (FuncData.mk (Str.ofString "number") (Str.ofString "DateReader.number") (sArgs (inAt 44 4)) (sBody (inAt 44 4)) (sScope (inAt 44 4)) 0 [] Value.none Value.none Value.none Value.none none Value.none Value.none 0)) #[],
Obj.mk (Value.type "code") none (Data.fields #[Value.str (Str.ofString "number") 613, Value.str (Str.ofString "DateReader.number") 614, Value.str (Str.ofString "/claim/cut.py") 615, Value.int 194 0, Value.int 3 0, Value.int 0 0, Value.int 0 0, Value.int 3 0, Value.ref 301, Value.bool true, Value.int 181 0, Value.ref 302, Value.none, Value.ref 303, Value.ref 304, Value.ref 305, Value.int 620 0, Value.int 194 0, Value.str (Str.ofString "/claim/cut.py") 621]) #[],
Obj.mk (Value.type "function") none (Data.func (FuncData.mk (Str.ofString "number") (Str.ofString "DateReader.number") (sArgs (inAt 44 4)) (sBody (inAt 44 4)) (sScope (inAt 44 4)) 3 [] Value.none Value.none Value.none (Value.str (Str.ofString "postkeep.dates") 368) none (Value.ref 306) Value.none 0)) #[],
Obj.mk (Value.type "tuple") none (Data.seq #[]) #[],
Obj.mk Value.none none (Data.fields #[]) #[],
Obj.mk (Value.type "tuple") none (Data.seq #[Value.str (Str.ofString "self") 626, Value.str (Str.ofString "is_right") 627, Value.str (Str.ofString "what") 628]) #[],
Obj.mk (Value.type "tuple") none (Data.seq #[]) #[],
Obj.mk Value.none none (Data.func (FuncData.mk (Str.ofString "need") (Str.ofString "DateReader.need") (sArgs (inAt 44 5)) (sBody (inAt 44 5)) (sScope (inAt 44 5)) 0 [] Value.none Value.none Value.none Value.none none Value.none Value.none 0)) #[],
Obj.mk (Value.type "code") none (Data.fields #[Value.str (Str.ofString "need") 623, Value.str (Str.ofString "DateReader.need") 624, Value.str (Str.ofString "/claim/cut.py") 625, Value.int 201 0, Value.int 3 0, Value.int 0 0, Value.int 0 0, Value.int 3 0, Value.ref 308, Value.bool true, Value.int 181 0, Value.ref 309, Value.none, Value.ref 310, Value.ref 311, Value.ref 312, Value.int 629 0, Value.int 201 0, Value.str (Str.ofString "/claim/cut.py") 630]) #[],
Obj.mk (Value.type "function") none (Data.func (FuncData.mk (Str.ofString "need") (Str.ofString "DateReader.need") (sArgs (inAt 44 5)) (sBody (inAt 44 5)) (sScope (inAt 44 5)) 3 [] Value.none Value.none Value.none (Value.str (Str.ofString "postkeep.dates") 368) none (Value.ref 313) Value.none 0)) #[],
Obj.mk (Value.type "tuple") none (Data.seq #[Value.str (Str.ofString "at") 632, Value.str (Str.ofString "length") 633, Value.str (Str.ofString "tokens") 634]) #[],
Obj.mk (Value.type "dict") none (Data.dict #[DictEntry.mk (PyData.keyHash P (Str.ofString "__module__")) (Value.str (Str.ofString "__module__") 579) (Value.str (Str.ofString "postkeep.dates") 368), DictEntry.mk (PyData.keyHash P (Str.ofString "__firstlineno__")) (Value.str (Str.ofString "__firstlineno__") 583) (Value.int 173 582), DictEntry.mk (PyData.keyHash P (Str.ofString "__init__")) (Value.str (Str.ofString "__init__") 591) (Value.ref 281), DictEntry.mk (PyData.keyHash P (Str.ofString "place")) (Value.str (Str.ofString "place") 598) (Value.ref 288), DictEntry.mk (PyData.keyHash P (Str.ofString "atom")) (Value.str (Str.ofString "atom") 604) (Value.ref 293), DictEntry.mk (PyData.keyHash P (Str.ofString "skip")) (Value.str (Str.ofString "skip") 612) (Value.ref 300), DictEntry.mk (PyData.keyHash P (Str.ofString "number")) (Value.str (Str.ofString "number") 622) (Value.ref 307), DictEntry.mk (PyData.keyHash P (Str.ofString "need")) (Value.str (Str.ofString "need") 631) (Value.ref 314), DictEntry.mk (PyData.keyHash P (Str.ofString "__static_attributes__")) (Value.str (Str.ofString "__static_attributes__") 635) (Value.ref 315), DictEntry.mk (PyData.keyHash P (Str.ofString "__dict__")) (Value.str (Str.ofString "__dict__") 637) (Value.ref 318), DictEntry.mk (PyData.keyHash P (Str.ofString "__weakref__")) (Value.str (Str.ofString "__weakref__") 639) (Value.ref 319), DictEntry.mk (PyData.keyHash P (Str.ofString "__doc__")) (Value.str (Str.ofString "__doc__") 640) Value.none] 4) #[],
Obj.mk (Value.type "type") none (Data.cls (ClassData.mk (Str.ofString "DateReader") [Value.type "object"] [Value.ref 317, Value.type "object"] 316 (Str.ofString "DateReader") true [] [] false none false)) #[none, none, some (Value.str (Str.ofString "DateReader") 572), some (Value.str (Str.ofString "DateReader") 580), some (Value.builtin "object.__new__"), some (Value.bool true)],
Obj.mk (Value.type "getset_descriptor") none (Data.fields #[Value.str (Str.ofString "__dict__") 636, Value.ref 317, Value.builtin "function.__dict__", Value.builtin "function.__dict__#set"]) #[],
Obj.mk (Value.type "getset_descriptor") none (Data.fields #[Value.str (Str.ofString "__weakref__") 638, Value.ref 317, Value.builtin "ExceptionGroup.__weakref__", Value.none]) #[]]
noncomputable def endO10 (P : Params) : List Obj := [
Obj.mk (Value.type "super") none (Data.fields #[Value.ref 317, Value.ref 317, Value.ref 317]) #[],
Obj.mk (Value.type "builtin_function_or_method") none (Data.fields #[Value.builtin "object.__init_subclass__", Value.ref 317]) #[],
Obj.mk (Value.type "tuple") none (Data.seq #[]) #[],
Obj.mk Value.none none (Data.fields #[]) #[],
Obj.mk (Value.type "tuple") none (Data.seq #[Value.str (Str.ofString "number") 646, Value.str (Str.ofString "figures") 647]) #[],
Obj.mk (Value.type "tuple") none (Data.seq #[]) #[],
Obj.mk Value.none none (Data.func (FuncData.mk (Str.ofString "full_year") (Str.ofString "full_year") (sArgs (topAt 45)) (sBody (topAt 45)) (sScope (topAt 45)) 0 [] Value.none Value.none Value.none Value.none none Value.none Value.none 0)) #[],
Obj.mk (Value.type "code") none (Data.fields #[Value.str (Str.ofString "full_year") 643, Value.str (Str.ofString "full_year") 644, Value.str (Str.ofString "/claim/cut.py") 645, Value.int 205 0, Value.int 2 0, Value.int 0 0, Value.int 0 0, Value.int 3 0, Value.ref 322, Value.bool true, Value.int 181 0, Value.ref 323, Value.none, Value.ref 324, Value.ref 325, Value.ref 326, Value.int 648 0, Value.int 205 0, Value.str (Str.ofString "/claim/cut.py") 649]) #[],
Obj.mk (Value.type "function") none (Data.func (FuncData.mk (Str.ofString "full_year") (Str.ofString "full_year") (sArgs (topAt 45)) (sBody (topAt 45)) (sScope (topAt 45)) 3 [] Value.none Value.none Value.none (Value.str (Str.ofString "postkeep.dates") 368) none (Value.ref 327) Value.none 0)) #[],
Obj.mk (Value.type "tuple") none (Data.seq #[]) #[],
Obj.mk Value.none none (Data.fields #[]) #[],
Obj.mk (Value.type "tuple") none (Data.seq #[Value.str (Str.ofString "reader") 654, Value.str (Str.ofString "hour") 655, Value.str (Str.ofString "minute") 656, Value.str (Str.ofString "second") 657]) #[],
Obj.mk (Value.type "tuple") none (Data.seq #[]) #[],
Obj.mk Value.none none (Data.func (FuncData.mk (Str.ofString "read_clock") (Str.ofString "read_clock") (sArgs (topAt 46)) (sBody (topAt 46)) (sScope (topAt 46)) 0 [] Value.none Value.none Value.none Value.none none Value.none Value.none 0)) #[],
Obj.mk (Value.type "code") none (Data.fields #[Value.str (Str.ofString "read_clock") 651, Value.str (Str.ofString "read_clock") 652, Value.str (Str.ofString "/claim/cut.py") 653, Value.int 209 0, Value.int 1 0, Value.int 0 0, Value.int 0 0, Value.int 3 0, Value.ref 329, Value.bool true, Value.int 181 0, Value.ref 330, Value.none, Value.ref 331, Value.ref 332, Value.ref 333, Value.int 658 0, Value.int 209 0, Value.str (Str.ofString "/claim/cut.py") 659]) #[],
Obj.mk (Value.type "function") none (Data.func (FuncData.mk (Str.ofString "read_clock") (Str.ofString "read_clock") (sArgs (topAt 46)) (sBody (topAt 46)) (sScope (topAt 46)) 3 [] Value.none Value.none Value.none (Value.str (Str.ofString "postkeep.dates") 368) none (Value.ref 334) Value.none 0)) #[],
Obj.mk (Value.type "tuple") none (Data.seq #[]) #[],
Obj.mk Value.none none (Data.fields #[]) #[],
Obj.mk (Value.type "tuple") none (Data.seq #[Value.str (Str.ofString "reader") 664, Value.str (Str.ofString "text") 665, Value.str (Str.ofString "zone") 666]) #[],
Obj.mk (Value.type "tuple") none (Data.seq #[]) #[],
Obj.mk Value.none none (Data.func (FuncData.mk (Str.ofString "read_zone") (Str.ofString "read_zone") (sArgs (topAt 47)) (sBody (topAt 47)) (sScope (topAt 47)) 0 [] Value.none Value.none Value.none Value.none none Value.none Value.none 0)) #[],
Obj.mk (Value.type "code") none (Data.fields #[Value.str (Str.ofString "read_zone") 661, Value.str (Str.ofString "read_zone") 662, Value.str (Str.ofString "/claim/cut.py") 663, Value.int 216 0, Value.int 1 0, Value.int 0 0, Value.int 0 0, Value.int 3 0, Value.ref 336, Value.bool true, Value.int 181 0, Value.ref 337, Value.none, Value.ref 338, Value.ref 339, Value.ref 340, Value.int 667 0, Value.int 216 0, Value.str (Str.ofString "/claim/cut.py") 668]) #[],
Obj.mk (Value.type "function") none (Data.func (FuncData.mk (Str.ofString "read_zone") (Str.ofString "read_zone") (sArgs (topAt 47)) (sBody (topAt 47)) (sScope (topAt 47)) 3 [] Value.none Value.none Value.none (Value.str (Str.ofString "postkeep.dates") 368) none (Value.ref 341) Value.none 0)) #[],
Obj.mk (Value.type "tuple") none (Data.seq #[]) #[],
Obj.mk Value.none none (Data.fields #[]) #[],
Obj.mk (Value.type "tuple") none (Data.seq #[Value.str (Str.ofString "octets") 673, Value.str (Str.ofString "reader") 674, Value.str (Str.ofString "begun") 675, Value.str (Str.ofString "day") 676, Value.str (Str.ofString "month") 677, Value.str (Str.ofString "number") 678, Value.str (Str.ofString "figures") 679, Value.str (Str.ofString "year") 680, Value.str (Str.ofString "hour") 681, Value.str (Str.ofString "minute") 682, Value.str (Str.ofString "second") 683, Value.str (Str.ofString "zone") 684]) #[],
Obj.mk (Value.type "tuple") none (Data.seq #[]) #[],
Obj.mk Value.none none (Data.func (FuncData.mk (Str.ofString "read_date") (Str.ofString "read_date") (sArgs (topAt 48)) (sBody (topAt 48)) (sScope (topAt 48)) 0 [] Value.none Value.none Value.none Value.none none Value.none Value.none 0)) #[],
Obj.mk (Value.type "code") none (Data.fields #[Value.str (Str.ofString "read_date") 670, Value.str (Str.ofString "read_date") 671, Value.str (Str.ofString "/claim/cut.py") 672, Value.int 223 0, Value.int 1 0, Value.int 0 0, Value.int 0 0, Value.int 3 0, Value.ref 343, Value.bool true, Value.int 181 0, Value.ref 344, Value.none, Value.ref 345, Value.ref 346, Value.ref 347, Value.int 685 0, Value.int 223 0, Value.str (Str.ofString "/claim/cut.py") 686]) #[],
Obj.mk (Value.type "function") none (Data.func (FuncData.mk (Str.ofString "read_date") (Str.ofString "read_date") (sArgs (topAt 48)) (sBody (topAt 48)) (sScope (topAt 48)) 3 [] Value.none Value.none Value.none (Value.str (Str.ofString "postkeep.dates") 368) none (Value.ref 348) Value.none 0)) #[],
Obj.mk (Value.type "tuple") none (Data.seq #[]) #[],
Obj.mk Value.none none (Data.fields #[]) #[]]
noncomputable def endO11 (P : Params) : List Obj := [
Obj.mk Value.none none (Data.func (FuncData.mk (Str.ofString "write_date") (Str.ofString "write_date") (sArgs (topAt 49)) (sBody (topAt 49)) (sScope (topAt 49)) 0 [] Value.none Value.none Value.none Value.none none Value.none Value.none 0)) #[],
Obj.mk (Value.type "code") none (Data.fields #[Value.str (Str.ofString "write_date") 688, Value.str (Str.ofString "write_date") 689, Value.str (Str.ofString "/claim/cut.py") 690, Value.int 244 0, Value.int 1 0, Value.int 0 0, Value.int 0 0, Value.int 3 0, Value.ref 350, Value.bool true, Value.int 181 0, Value.ref 351, Value.none, Value.none, Value.none, Value.ref 352, Value.int 691 0, Value.int 244 0, Value.str (Str.ofString "/claim/cut.py") 692]) #[],
Obj.mk (Value.type "function") none (Data.func (FuncData.mk (Str.ofString "write_date") (Str.ofString "write_date") (sArgs (topAt 49)) (sBody (topAt 49)) (sScope (topAt 49)) 3 [] Value.none Value.none Value.none (Value.str (Str.ofString "postkeep.dates") 368) none (Value.ref 353) Value.none 0)) #[],
Obj.mk (Value.type "tuple") none (Data.seq #[]) #[],
Obj.mk Value.none none (Data.fields #[]) #[],
Obj.mk Value.none none (Data.func (FuncData.mk (Str.ofString "_law_box") (Str.ofString "_law_box") (sArgs (topAt 51)) (sBody (topAt 51)) (sScope (topAt 51)) 0 [] Value.none Value.none Value.none Value.none none Value.none Value.none 0)) #[],
Obj.mk (Value.type "code") none (Data.fields #[Value.str (Str.ofString "_law_box") 696, Value.str (Str.ofString "_law_box") 697, Value.str (Str.ofString "/claim/cut.py") 698, Value.int 250 0, Value.int 1 0, Value.int 0 0, Value.int 0 0, Value.int 3 0, Value.ref 355, Value.bool true, Value.int 181 0, Value.ref 356, Value.none, Value.none, Value.none, Value.ref 357, Value.int 699 0, Value.int 250 0, Value.str (Str.ofString "/claim/cut.py") 700]) #[],
Obj.mk (Value.type "function") none (Data.func (FuncData.mk (Str.ofString "_law_box") (Str.ofString "_law_box") (sArgs (topAt 51)) (sBody (topAt 51)) (sScope (topAt 51)) 3 [] Value.none Value.none Value.none (Value.str (Str.ofString "law_nz0305_01") 694) none (Value.ref 358) Value.none 0)) #[],
Obj.mk (Value.type "tuple") none (Data.seq #[]) #[],
Obj.mk Value.none none (Data.fields #[]) #[],
Obj.mk (Value.type "tuple") none (Data.seq #[Value.str (Str.ofString "pool") 705, Value.str (Str.ofString "most") 706, Value.str (Str.ofString "place") 707, Value.str (Str.ofString "digit") 708]) #[],
Obj.mk (Value.type "tuple") none (Data.seq #[]) #[],
Obj.mk Value.none none (Data.func (FuncData.mk (Str.ofString "_law_draw") (Str.ofString "_law_draw") (sArgs (topAt 52)) (sBody (topAt 52)) (sScope (topAt 52)) 0 [] Value.none Value.none Value.none Value.none none Value.none Value.none 0)) #[],
Obj.mk (Value.type "code") none (Data.fields #[Value.str (Str.ofString "_law_draw") 702, Value.str (Str.ofString "_law_draw") 703, Value.str (Str.ofString "/claim/cut.py") 704, Value.int 259 0, Value.int 2 0, Value.int 0 0, Value.int 0 0, Value.int 3 0, Value.ref 360, Value.bool true, Value.int 181 0, Value.ref 361, Value.none, Value.ref 362, Value.ref 363, Value.ref 364, Value.int 709 0, Value.int 259 0, Value.str (Str.ofString "/claim/cut.py") 710]) #[],
Obj.mk (Value.type "function") none (Data.func (FuncData.mk (Str.ofString "_law_draw") (Str.ofString "_law_draw") (sArgs (topAt 52)) (sBody (topAt 52)) (sScope (topAt 52)) 3 [] Value.none Value.none Value.none (Value.str (Str.ofString "law_nz0305_01") 694) none (Value.ref 365) Value.none 0)) #[],
Obj.mk (Value.type "tuple") none (Data.seq #[Value.int 4 712, Value.int 4 713]) #[],
Obj.mk (Value.type "tuple") none (Data.seq #[Value.int 6 714, Value.int 6 715]) #[],
Obj.mk (Value.type "tuple") none (Data.seq #[Value.int 8 716, Value.int 8 717]) #[],
Obj.mk (Value.type "tuple") none (Data.seq #[Value.int 10 718, Value.int 10 719]) #[],
Obj.mk (Value.type "tuple") none (Data.seq #[Value.int 12 720, Value.int 12 721]) #[],
Obj.mk (Value.type "tuple") none (Data.seq #[Value.int 5 722, Value.int 9 723]) #[],
Obj.mk (Value.type "tuple") none (Data.seq #[Value.int 9 724, Value.int 5 725]) #[],
Obj.mk (Value.type "tuple") none (Data.seq #[Value.int 7 726, Value.int 11 727]) #[],
Obj.mk (Value.type "tuple") none (Data.seq #[Value.int 11 728, Value.int 7 729]) #[],
Obj.mk (Value.type "tuple") none (Data.seq #[Value.ref 367, Value.ref 368, Value.ref 369, Value.ref 370, Value.ref 371, Value.ref 372, Value.ref 373, Value.ref 374, Value.ref 375]) #[],
Obj.mk (Value.type "tuple") none (Data.seq #[]) #[],
Obj.mk Value.none none (Data.fields #[]) #[],
Obj.mk Value.none none (Data.func (FuncData.mk (Str.ofString "law") (Str.ofString "law") (sArgs (topAt 54)) (sBody (topAt 54)) (sScope (topAt 54)) 0 [] Value.none Value.none Value.none Value.none none Value.none Value.none 0)) #[],
Obj.mk (Value.type "code") none (Data.fields #[Value.str (Str.ofString "law") 731, Value.str (Str.ofString "law") 732, Value.str (Str.ofString "/claim/cut.py") 733, Value.int 271 0, Value.int 1 0, Value.int 0 0, Value.int 0 0, Value.int 3 0, Value.ref 377, Value.bool true, Value.int 181 0, Value.ref 378, Value.none, Value.none, Value.none, Value.ref 379, Value.int 734 0, Value.int 271 0, Value.str (Str.ofString "/claim/cut.py") 735]) #[],
Obj.mk (Value.type "function") none (Data.func (FuncData.mk (Str.ofString "law") (Str.ofString "law") (sArgs (topAt 54)) (sBody (topAt 54)) (sScope (topAt 54)) 3 [] Value.none Value.none Value.none (Value.str (Str.ofString "law_nz0305_01") 694) none (Value.ref 380) Value.none 0)) #[]]
/-- the heap that the top leaves behind -/
noncomputable def endH (P : Params) : Heap := Heap.mk (Array.mk (endO0 P ++ endO1 P ++ endO2 P ++ endO3 P ++ endO4 P ++ endO5 P ++ endO6 P ++ endO7 P ++ endO8 P ++ endO9 P ++ endO10 P ++ endO11 P)) (Life.mk [] [] [] 0 [] [] false #[] [] 0 false false false 0 [2000, 10, 10] false 0 true [] [] 0 false)
def runE (p : Program) (w : World) := (openEnds treeTable p w 4954).map (fun s => (s.heap, s.gens, s.drawn, s.toks))
def runS (p q : Program) (rs : WRecords) (s : Shared) := openSeen q [PySem.Str.ofString "PostError", PySem.Str.ofString "MOST_ZONE"] (importedModules p.main.body) (fun s => xlAt q [(PySem.Str.ofString "MOST_ZONE", WData.int 5999)] s && recOk rs s) true s
def runB (p q : Program) (rs : WRecords) (w : World) := (openEnds treeTable p w 4954).map (fun s => (openSeen q [PySem.Str.ofString "PostError", PySem.Str.ofString "MOST_ZONE"] (importedModules p.main.body) (fun s => xlAt q [(PySem.Str.ofString "MOST_ZONE", WData.int 5999)] s && recOk rs s) true s, seenAt.map s.heap.get?))
end Mine
lay_quick Mine.runE
lay_quick Mine.runS
namespace Mine
theorem law_look : PySem.Challenge.rw_nz0305_01.wellSaid = true := (congrFun PySem.W.Fast.te9446332074065402090 _).trans (by kernel_rfl)
theorem end_ok (w : World) : Mine.runE PySem.Challenge.pw_nz0305_01 w = some (Mine.endH w.params, Array.mk [], Drawn.mk 0 0 0 0, 737) := (congrFun (congrFun PySem.W.Fast.te5780771518471667644 _) w).trans (by kernel_rfl)
theorem seen_ok (w : World) (os : OsState) : Mine.runS PySem.Challenge.pw_nz0305_01 Mine.viewM (RowW.records (OpenRow.toRowW PySem.Challenge.rw_nz0305_01.row)) ⟨Mine.endH w.params, Array.mk [], Drawn.mk 0 0 0 0, 737, os⟩ = openGood Mine.viewM [PySem.Str.ofString "PostError", PySem.Str.ofString "MOST_ZONE"] := (congrFun (congrFun (congrFun (congrFun PySem.W.Fast.te9647331666758371307 _) _) _) _).trans (by kernel_rfl)
theorem end_of {x : Option Shared} {H : Heap} {gs : Array GenState} {d : Drawn} {k : Nat} (h : x.map (fun s => (s.heap, s.gens, s.drawn, s.toks)) = some (H, gs, d, k)) : ∃ os, x = some ⟨H, gs, d, k, os⟩ := by
  cases x with
  | none => cases h
  | some s =>
    obtain ⟨h', gs', d', k', os⟩ := s
    obtain ⟨rfl, rfl, rfl, rfl⟩ : h' = H ∧ gs' = gs ∧ d' = d ∧ k' = k := by simpa using h
    exact ⟨os, rfl⟩
theorem both_of {α β : Type} {x : Option Shared} {f : Shared → α} {g : Shared → β} {a : α} {b : β} {s : Shared} (hx : x = some s) (h1 : f s = a) (h2 : g s = b) : x.map (fun s => (f s, g s)) = some (a, b) := by
  rw [hx, Option.map_some, h1, h2]
theorem both_ok {w : World} {b : List (Option Obj)} (h : seenAt.map (Mine.endH w.params).get? = b) : Mine.runB PySem.Challenge.pw_nz0305_01 Mine.viewM (RowW.records (OpenRow.toRowW PySem.Challenge.rw_nz0305_01.row)) w = some (openGood Mine.viewM [PySem.Str.ofString "PostError", PySem.Str.ofString "MOST_ZONE"], b) := by
  obtain ⟨os, e⟩ := end_of (end_ok w)
  exact both_of (s := ⟨Mine.endH w.params, Array.mk [], Drawn.mk 0 0 0 0, 737, os⟩) e (seen_ok w os) h
section
local macro_rules | `(tactic| o_law) => `(tactic| (refine holds_law law_look (fun said => ?_)))
local macro_rules | `(tactic| o_head $H) => `(tactic| (
  refine holds_open (q := Mine.viewM) (loose := [PySem.Str.ofString "PostError", PySem.Str.ofString "MOST_ZONE"]) (Xt := fun s => xlAt Mine.viewM [(PySem.Str.ofString "MOST_ZONE", WData.int 5999)] s && recOk (RowW.records (OpenRow.toRowW PySem.Challenge.rw_nz0305_01.row)) s) (XP := XL Mine.viewM [(PySem.Str.ofString "MOST_ZONE", WData.int 5999)]) (Yf := Hook.obs $H) (Ya := Hook.val $H) (YP := Hook.says $H) (N := 4954) ?hl (Hook.of $H) (Hook.keeps $H) (fun s e => xl_of s (Bool.and_eq_true_iff.mp e).1) XL.keeps (by rfl) (by rfl) (by rfl) (fun s e => recFacts_of (Bool.and_eq_true_iff.mp e).2) (by rfl) (by first | assumption | decide +kernel) (by decide +kernel) ⟨rfl, rfl, rfl, rfl, rfl, by decide +kernel⟩ ?hw ?hc
  case hl => (intro w; refine Eq.trans (b := Mine.runB PySem.Challenge.pw_nz0305_01 Mine.viewM (RowW.records (OpenRow.toRowW PySem.Challenge.rw_nz0305_01.row)) w) ?hl1 (both_ok (b := Hook.val $H w) ?hl2); (case hl1 => kernel_rfl); (case hl2 => kernel_rfl))))
open_top hd for PySem.Challenge.rw_nz0305_01
end
end Mine


section AllParts
local macro_rules | `(tactic| walk_at "call ref") => `(tactic| k_extra "call ref~")
local macro_rules | `(tactic| walk_at "compareOp In int bytes") => `(tactic| k_extra "compareOp In int bytes~")
local macro_rules | `(tactic| walk_at "compareOp In bytes bytes") => `(tactic| k_extra "compareOp In bytes bytes~")
local macro_rules | `(tactic| walk_at "eval Call") => `(tactic| k_extra "eval Call~")
local macro_rules | `(tactic| walk_at "compareOp Eq bytes bytes") => `(tactic| k_extra "compareOp Eq bytes bytes~")
local macro_rules | `(tactic| walk_at "call builtin:list.append") => `(tactic| k_extra "call builtin:list.append~")
local macro_rules | `(tactic| walk_at "WhlIf") => `(tactic| k_extra "WhlIf~")
local macro_rules | `(tactic| walk_at "eval ListComp") => `(tactic| k_extra "eval ListComp~")
local macro_rules | `(tactic| walk_at "CodeSrc") => `(tactic| k_extra "CodeSrc~")
local macro_rules | `(tactic| walk_at "call builtin:chr") => `(tactic| k_extra "call builtin:chr~")
local macro_rules | `(tactic| walk_at "call builtin:str.join") => `(tactic| k_extra "call builtin:str.join~")
local macro_rules | `(tactic| walk_at "CompEnd") => `(tactic| k_extra "CompEnd~")
local macro_rules | `(tactic| walk_at "exec Assign cons ListComp") => `(tactic| k_extra "exec Assign cons ListComp~")
local macro_rules | `(tactic| walk_at "compareOp In str ref") => `(tactic| k_extra "compareOp In str ref~")
local macro_rules | `(tactic| walk_at "call builtin:list.index") => `(tactic| k_extra "call builtin:list.index~")
local macro_rules | `(tactic| walk_at "NoneSrc") => `(tactic| k_extra "NoneSrc~")
local macro_rules | `(tactic| walk_at "Keeps") => `(tactic| k_extra "Keeps~")
local macro_rules | `(tactic| walk_at "compareOp Eq ref ref") => `(tactic| k_extra "compareOp Eq ref ref~")
local macro_rules | `(tactic| walk_at "subscriptTail") => `(tactic| k_extra "subscriptTail~")
local macro_rules | `(tactic| walk_at "call builtin:len") => `(tactic| k_extra "call builtin:len~")
local macro_rules | `(tactic| walk_at "compareOp NotEq str str") => `(tactic| k_extra "compareOp NotEq str str~")
local macro_rules | `(tactic| walk_at "AllSrc") => `(tactic| k_extra "AllSrc~")
local macro_rules | `(tactic| walk_at "subscriptTail Name Slice ref ref") => `(tactic| k_extra "subscriptTail Name Slice ref ref~")
local macro_rules | `(tactic| walk_at "compareOp NotEq ref ref") => `(tactic| k_extra "compareOp NotEq ref ref~")
local macro_rules | `(tactic| walk_at "call builtin:int") => `(tactic| k_extra "call builtin:int~")
local macro_rules | `(tactic| walk_at "call type:int") => `(tactic| k_extra "call type:int~")
local macro_rules | `(tactic| walk_at "CodeSrcN") => `(tactic| k_extra "CodeSrcN~")
local macro_rules | `(tactic| walk_at "call type:bytes") => `(tactic| k_extra "call type:bytes~")
local macro_rules | `(tactic| walk_at "exec If") => `(tactic| k_extra "exec If~")
local macro_rules | `(tactic| walk_at "YearP") => `(tactic| k_extra "YearP~")
local macro_rules | `(tactic| walk_at "PairSrc") => `(tactic| k_extra "PairSrc~")
local macro_rules | `(tactic| walk_at "SameP") => `(tactic| k_extra "SameP~")
local macro_rules | `(tactic| walk_at "compareOp NotEq int int") => `(tactic| k_extra "compareOp NotEq int int~")
local macro_rules | `(tactic| walk_at "binaryOp Add bytes bytes") => `(tactic| k_extra "binaryOp Add bytes bytes~")
local macro_rules | `(tactic| walk_at "compareOp NotEq bytes bytes") => `(tactic| k_extra "compareOp NotEq bytes bytes~")
section PartBase
open PySem PySem.W PyProof.Rows
namespace Mine
/-- a call of the def at f with vs, over the ledger news: what comes back (a value, and what was made) meets P -/
def Con (d : Nat) (w : World) (f : Addr) (vs : List Value) (news : List (Addr × Obj)) (P : Value → List (Addr × Obj) → Prop) : Prop :=
  ∀ (mean : ExcName → Option Value) (mg mb : PySem.Str → Option Value) (dp un : Nat) (gd : Option (List Code)) (cn : PySem.Str) (cs : Scope) (a : Addr) (ccd : Value) (cl : List (PySem.Str × Addr)) (outer : List Env) (A₀ : Around) (base h₀ : Heap) (L : Addr) (m : PySem.Str → Option Value) (s : Shared) (Q E : Value → Shared → Prop),
    Below A₀ base outer h₀ → Fr h₀ L s.heap m → (Mine.hd.heap_1 w.params).In h₀ → News h₀ L s.heap news →
    Top Mine.viewM (looseW Mine.viewM [PySem.Str.ofString "PostError", PySem.Str.ofString "MOST_ZONE"]) mean mg mb h₀ → cs.kind = .function → dp + d < recursionLimit → un + 200 * d < cLine →
    (∀ (r : Value) (tl : List (Addr × Obj)) (h' : Heap) (tk' : Nat), Fr h₀ L h' m → News h₀ L h' (tl ++ news) → (∀ q ∈ news, ∀ p ∈ tl, q.1 ≠ p.1) → P r tl → Q r { s with heap := h', toks := tk' }) →
    wpAny (model PySem.Challenge.rw_nz0305_01.row.prog w) (ktrTop dp un gd cn cs L a ccd cl outer) (PySem.call (.ref f) vs) Q E s
end Mine
namespace Mine
theorem around_is {A : Around} {cn : PySem.Str} {cs : Scope} {L a : Addr} {ccd : Value} {cl : List (PySem.Str × Addr)} {outer : List Env} (h1 : A.handled = none) (h2 : A.frames = some (envX cn cs L a ccd cl :: outer)) : A = ktrTop A.depth A.units A.guards cn cs L a ccd cl outer := by
  cases A
  simp only at h1 h2
  subst h1
  subst h2
  rfl
theorem Con.use {d : Nat} {w : World} {f : Addr} {vs : List Value} {news : List (Addr × Obj)} {P : Value → List (Addr × Obj) → Prop} (C : Con d w f vs news P)
    {mean : ExcName → Option Value} {mg mb : PySem.Str → Option Value} {A : Around} {cn : PySem.Str} {cs : Scope} {a : Addr} {ccd : Value} {cl : List (PySem.Str × Addr)} {outer : List Env} {A₀ : Around} {base h₀ : Heap} {L : Addr} {m : PySem.Str → Option Value} {s : Shared} {Q E : Value → Shared → Prop}
    (B : Below A₀ base outer h₀) (F : Fr h₀ L s.heap m) (X : (Mine.hd.heap_1 w.params).In h₀) (N : News h₀ L s.heap news)
    (T : Top Mine.viewM (looseW Mine.viewM [PySem.Str.ofString "PostError", PySem.Str.ofString "MOST_ZONE"]) mean mg mb h₀) (hk : cs.kind = .function) (hd : A.depth + d < recursionLimit) (hu : A.units + 200 * d < cLine)
    (h : ∀ (r : Value) (tl : List (Addr × Obj)) (h' : Heap) (tk' : Nat), Fr h₀ L h' m → News h₀ L h' (tl ++ news) → (∀ q ∈ news, ∀ p ∈ tl, q.1 ≠ p.1) → P r tl → Q r { s with heap := h', toks := tk' })
    (hA1 : A.handled = none := by rfl) (hA2 : A.frames = some (envX cn cs L a ccd cl :: outer) := by rfl) :
    wpAny (model PySem.Challenge.rw_nz0305_01.row.prog w) A (PySem.call (.ref f) vs) Q E s := by
  rw [around_is hA1 hA2]
  exact C mean mg mb A.depth A.units A.guards cn cs a ccd cl outer A₀ base h₀ L m s Q E B F X N T hk hd hu h
/-- a plain answer: nothing made that stays -/
def Pl (v : Tok → Value) (r : Value) (tl : List (Addr × Obj)) : Prop := tl = [] ∧ ∃ t, r = v t
theorem Con.plain {d : Nat} {w : World} {f : Addr} {vs : List Value} {news : List (Addr × Obj)} {v : Tok → Value} (C : Con d w f vs news (Pl v))
    {mean : ExcName → Option Value} {mg mb : PySem.Str → Option Value} {A : Around} {cn : PySem.Str} {cs : Scope} {a : Addr} {ccd : Value} {cl : List (PySem.Str × Addr)} {outer : List Env} {A₀ : Around} {base h₀ : Heap} {L : Addr} {m : PySem.Str → Option Value} {s : Shared} {Q E : Value → Shared → Prop}
    (B : Below A₀ base outer h₀) (F : Fr h₀ L s.heap m) (X : (Mine.hd.heap_1 w.params).In h₀) (N : News h₀ L s.heap news)
    (T : Top Mine.viewM (looseW Mine.viewM [PySem.Str.ofString "PostError", PySem.Str.ofString "MOST_ZONE"]) mean mg mb h₀) (hk : cs.kind = .function) (hd : A.depth + d < recursionLimit) (hu : A.units + 200 * d < cLine)
    (h : ∀ (t : Tok) (h' : Heap) (tk' : Nat), Fr h₀ L h' m → News h₀ L h' news → Q (v t) { s with heap := h', toks := tk' })
    (hA1 : A.handled = none := by rfl) (hA2 : A.frames = some (envX cn cs L a ccd cl :: outer) := by rfl) :
    wpAny (model PySem.Challenge.rw_nz0305_01.row.prog w) A (PySem.call (.ref f) vs) Q E s :=
  C.use B F X N T hk hd hu (fun r tl h' tk' F' N' _ p => by
    obtain ⟨rfl, t, rfl⟩ := p
    exact h t h' tk' F' N') hA1 hA2
/-- a walk's plain end -/
theorem ret_plain {h₀ h' : Heap} {L : Addr} {m : PySem.Str → Option Value} {news : List (Addr × Obj)} {s : Shared} {Q : Value → Shared → Prop} {v v' : Tok → Value} {t : Tok} {tk' : Nat}
    (h : ∀ (r : Value) (tl : List (Addr × Obj)) (h' : Heap) (tk' : Nat), Fr h₀ L h' m → News h₀ L h' (tl ++ news) → (∀ q ∈ news, ∀ p ∈ tl, q.1 ≠ p.1) → Pl v r tl → Q r { s with heap := h', toks := tk' })
    (e : v' = v) (F : Fr h₀ L h' m) (N : News h₀ L h' news) : Q (v' t) { s with heap := h', toks := tk' } := by
  subst e
  exact h _ [] h' tk' F N (fun _ _ _ h => nomatch h) ⟨rfl, t, rfl⟩
theorem ret_int {h₀ h' : Heap} {L : Addr} {m : PySem.Str → Option Value} {news : List (Addr × Obj)} {s : Shared} {Q : Value → Shared → Prop} {x y : Int} {t : Tok} {tk' : Nat}
    (h : ∀ (r : Value) (tl : List (Addr × Obj)) (h' : Heap) (tk' : Nat), Fr h₀ L h' m → News h₀ L h' (tl ++ news) → (∀ q ∈ news, ∀ p ∈ tl, q.1 ≠ p.1) → Pl (Value.int y) r tl → Q r { s with heap := h', toks := tk' })
    (F : Fr h₀ L h' m) (N : News h₀ L h' news) (e : x = y) : Q (.int x t) { s with heap := h', toks := tk' } := ret_plain (v' := Value.int x) h (by rw [e]) F N
theorem ret_bool {h₀ h' : Heap} {L : Addr} {m : PySem.Str → Option Value} {news : List (Addr × Obj)} {s : Shared} {Q : Value → Shared → Prop} {x y : Bool} {tk' : Nat}
    (h : ∀ (r : Value) (tl : List (Addr × Obj)) (h' : Heap) (tk' : Nat), Fr h₀ L h' m → News h₀ L h' (tl ++ news) → (∀ q ∈ news, ∀ p ∈ tl, q.1 ≠ p.1) → Pl (fun _ => Value.bool y) r tl → Q r { s with heap := h', toks := tk' })
    (F : Fr h₀ L h' m) (N : News h₀ L h' news) (e : x = y) : Q (.bool x) { s with heap := h', toks := tk' } := ret_plain (v' := fun _ => Value.bool x) (t := 0) h (by rw [e]) F N
theorem ret_str {h₀ h' : Heap} {L : Addr} {m : PySem.Str → Option Value} {news : List (Addr × Obj)} {s : Shared} {Q : Value → Shared → Prop} {x y : PySem.Str} {t : Tok} {tk' : Nat}
    (h : ∀ (r : Value) (tl : List (Addr × Obj)) (h' : Heap) (tk' : Nat), Fr h₀ L h' m → News h₀ L h' (tl ++ news) → (∀ q ∈ news, ∀ p ∈ tl, q.1 ≠ p.1) → Pl (Value.str y) r tl → Q r { s with heap := h', toks := tk' })
    (F : Fr h₀ L h' m) (N : News h₀ L h' news) (e : x = y) : Q (.str x t) { s with heap := h', toks := tk' } := ret_plain (v' := Value.str x) h (by rw [e]) F N
end Mine
end PartBase
section PartRules
open PySem PySem.W PyProof.Rows PySem.Calls
namespace Mine
open Builtin
theorem noIndex_bytes : typeLookup (.type "bytes") "__index__" = pure none := by rw [typeLookup_type, builtinLookup_eq_fast]; kernel_rfl
theorem slotArgs2 {a b : Value} : slotArgs "__contains__" 1 ⟨[a, b], []⟩ = pure (a, [b]) := rfl
theorem gives_contains_int (b : Array UInt8) (t u : Tok) (i : Int) (h0 : 0 ≤ i) (h1 : i < 256) : Gives («bytes.__contains__» ⟨[.bytes b t, .int i u], []⟩) (.val (.bool (b.contains i.toNat.toUInt8))) := by
  refine .of_wp fun M A E s Q hq => ?_
  show wpAny M A (Bytes.containsIn "bytes.__contains__" (.bytes b t) (.int i u) >>= fun r => _) _ E s
  refine wpAny_bind ?_
  unfold Bytes.containsIn
  refine wpAny_bind (wpAny_attempt ?_)
  refine wpAny_of_eq (a := i) rfl ?_
  refine wpAny_bind (wpAny_of_eq KBy.buffer_eq ?_)
  dsimp only
  have e : (decide (i < 0) || decide (i ≥ 256)) = false := by
    simp only [Bool.or_eq_false_iff, decide_eq_false_iff_not]; omega
  simp only [e]
  exact wpAny_pure (wpAny_pure ⟨_, rfl, hq⟩)
section
variable {prog : Program} {w : World} {A : Around} {E : Value → Shared → Prop} {s : Shared} {b c : Array UInt8} {t u : Tok} {Q : Value → Shared → Prop}
theorem in_bytes_int {i : Int} (h0 : 0 ≤ i) (h1 : i < 256) (h : Q (.bool (b.contains i.toNat.toUInt8)) s) : wpAny (model prog w) A (compareOp .In (.int i u) (.bytes b t)) Q E s :=
  in_gives (typeIs_bytes s b t) FB.slot_bytes_contains FB.entry_bytes_contains (FB.args_bytes_contains_2 _ _) (gives_contains_int b t u i h0 h1) h
theorem asIndex_bytes {Q : Int → Shared → Prop} (hh : A.handled = none) (h : ∀ h' tk e, Heap.NewExc s.heap h' e "TypeError" → E (.ref e) { s with heap := h', toks := tk }) : wpAny (model prog w) A (asIndex (.bytes c u)) Q E s := by
  unfold asIndex
  refine wpAny_bind (wpAny_of_eq (a := none) rfl ?_)
  dsimp only
  refine wpAny_bind (wpAny_callSpecial?_none (typeIs_bytes s c u) noIndex_bytes ?_)
  dsimp only
  refine wpAny_bind (wpAny_of_eq (a := "bytes") (by rfl) ?_)
  exact wpAny_raiseErrorMade plainExc_TypeError hh h (by decide +kernel)
theorem in_bytes_bytes {h₀ : Heap} {L : Addr} {m : PySem.Str → Option Value} {news : List (Addr × Obj)} (F : Fr h₀ L s.heap m) (N : News h₀ L s.heap news) (hh : A.handled = none)
    (h : ∀ h' tk, Fr h₀ L h' m → News h₀ L h' news → Q (.bool (Bytes.find? b c 0 b.size).isSome) { s with heap := h', toks := tk }) : wpAny (model prog w) A (compareOp .In (.bytes c u) (.bytes b t)) Q E s := by
  refine In_slot (typeIs_bytes s b t) FB.slot_bytes_contains (wpAny_call_entry FB.slot_bytes_contains (typeIs_bytes s b t) FB.entry_bytes_contains ?_ (FB.args_bytes_contains_2 _ _))
  show wpAny _ _ (Bytes.containsIn "bytes.__contains__" (.bytes b t) (.bytes c u) >>= fun r => _) _ E s
  refine wpAny_bind ?_
  unfold Bytes.containsIn
  refine wpAny_bind (wpAny_attempt ?_)
  refine asIndex_bytes hh fun h' tk e x => ?_
  refine wpAny_bind (wpAny_of_eq KBy.buffer_eq ?_)
  dsimp only
  refine wpAny_bind (wpAny_of_eq KBy.buffer_eq ?_)
  dsimp only
  refine wpAny_bind (wpAny_rule ?_)
  refine wpAny_pure (wpAny_pure ⟨_, rfl, wpAny_truthy_bool ?_⟩)
  exact h h' tk (F.keeps x.keeps) (fun q hq => ⟨x.keeps _ _ (N q hq).1, (N q hq).2⟩)
end
end Mine
end PartRules
section PartF1
open PySem PySem.W PyProof.Rows
namespace Mine
theorem forgetF1 : True := by
  k_with_none
  trivial
theorem say_words : True := by
  k_with "e_news" => (first | k_asm | (refine' cb_drop ?cbN ?cbS; (case cbN => assumption); (case cbS => kcj_all)))
  k_with "e_enter" => (refine wpAny_call ?_; k_dflt cell_enter)
  k_with "e_con" => ((case k1 => k_asm); (case k2 => k_asm); (case k3 => k_asm); (case k4 => k_asm); (case k5 => k_asm); (case k6 => first | exact rfl | assumption); (case k7 => first | ((simp only [depth_under_make, depth_under_kw, depth_in1, depth_deeper, depth_caller, ktrTop]); omega) | ktr_room); (case k8 => first | ((simp only [units_under_make, units_in1, units_deeper, Around.mark_units, units_caller, ktrTop]); omega) | ktr_units); k_whole)
  trivial
def leapB (y : Int) : Bool := decide (Int.fmod y 4 = 0) && (decide (Int.fmod y 100 ≠ 0) || decide (Int.fmod y 400 = 0))
theorem con_is_leap (w : World) (y : Int) (t : Tok) (news) : Con 1 w 172 [.int y t] news (Pl fun _ => .bool (leapB y)) := by
  unfold Con
  k_fill
  w_on
  intro mean mg mb dp un gd cn cs a ccd cl outer A₀ base h₀ L m s Q E B F X N T hk hd hu hret
  k_extra "e_enter"
  k_steps
  all_goals (refine ret_bool hret (by k_asm) (by k_extra "e_news") ?_)
  all_goals (simp only [leapB]; clear hret; simp_all [bne, Bool.beq_eq_decide_eq])
theorem wordF11 : True := by
  k_with "call ref~" => (k_here; k_dflt (refine' Con.plain (con_is_leap _ _ _ _) ?k1.wF11 ?k2.wF11 ?k3.wF11 ?k4.wF11 ?k5.wF11 ?k6.wF11 ?k7.wF11 ?k8.wF11 ?_; k_extra "e_con"); intro t9 h9 tk9 F9 N9; (try k_fold))
  trivial
def mlen (y m : Int) : Int := if m = 2 then (if leapB y = true then 29 else 28) else if [4, 6, 9, 11].any (fun x => x == m) = true then 30 else 31
theorem con_month_length (w : World) (y mo : Int) (t u : Tok) (news) : Con 2 w 179 [.int y t, .int mo u] news (Pl (.int (mlen y mo))) := by
  unfold Con
  k_fill
  w_on
  intro mean mg mb dp un gd cn cs a ccd cl outer A₀ base h₀ L m s Q E B F X N T hk hd hu hret
  k_extra "e_enter"
  k_steps
  all_goals (refine ret_int hret (by k_asm) (by k_extra "e_news") ?_)
  all_goals (unfold mlen; first | (rw [if_pos (by assumption), if_pos (by assumption)]; done) | (rw [if_pos (by assumption), if_neg (by rw [‹leapB y = false›]; exact Bool.false_ne_true)]; done) | (rw [if_neg (by assumption), if_pos (by assumption)]; done) | (rw [if_neg (by assumption), if_neg (ne_true_of_eq_false (by assumption))]; done))
def dby (y : Int) : Int := (y - 1) * 365 + Int.fdiv (y - 1) 4 - Int.fdiv (y - 1) 100 + Int.fdiv (y - 1) 400
theorem con_days_before_year (w : World) (y : Int) (t : Tok) (news) : Con 1 w 186 [.int y t] news (Pl (.int (dby y))) := by
  unfold Con
  k_fill
  w_on
  intro mean mg mb dp un gd cn cs a ccd cl outer A₀ base h₀ L m s Q E B F X N T hk hd hu hret
  k_extra "e_enter"
  k_steps
  all_goals (refine ret_int hret (by k_asm) (by k_extra "e_news") ?_)
  all_goals rfl
theorem wordF12 : True := by
  k_with "call ref~" => (k_here; k_dflt (refine' Con.plain (con_month_length _ _ _ _ _ _) ?k1.wF12 ?k2.wF12 ?k3.wF12 ?k4.wF12 ?k5.wF12 ?k6.wF12 ?k7.wF12 ?k8.wF12 ?_; k_extra "e_con"); intro t9 h9 tk9 F9 N9; (try k_fold))
  trivial
theorem wordF13 : True := by
  k_with "call ref~" => (k_here; k_dflt (refine' Con.plain (con_days_before_year _ _ _ _) ?k1.wF13 ?k2.wF13 ?k3.wF13 ?k4.wF13 ?k5.wF13 ?k6.wF13 ?k7.wF13 ?k8.wF13 ?_; k_extra "e_con"); intro t9 h9 tk9 F9 N9; (try k_fold))
  trivial
def dnum (y m d : Int) : Int := dby y - 719162 + d - 1 + ((rangeKs 1 (m - 1).toNat).map (mlen y)).sum
theorem con_day_number (w : World) (y mo d : Int) (t u v : Tok) (news) (h1 : 1 ≤ mo) (h2 : mo ≤ 12) : Con 3 w 193 [.int y t, .int mo u, .int d v] news (Pl (.int (dnum y mo d))) := by
  unfold Con
  k_fill
  w_on
  intro mean mg mb dp un gd cn cs a ccd cl outer A₀ base h₀ L m s Q E B F X N T hk hd hu hret
  k_with "pyIter ref" => k_state_given ["year", "total!"] (fun (y t0 : Int) pre (total : Int) => total = t0 + (pre.map (mlen y)).sum) "total"
  k_extra "e_enter"
  k_steps
  all_goals (refine ret_int hret (by k_asm) (by k_extra "e_news") ?_)
  all_goals exact kInv
theorem wordF14 : True := by
  k_with "call ref~" => (k_here; k_dflt (refine' Con.plain (con_day_number _ _ _ _ _ _ _ _ ?c1.wF14 ?c2.wF14) ?k1.wF14 ?k2.wF14 ?k3.wF14 ?k4.wF14 ?k5.wF14 ?k6.wF14 ?k7.wF14 ?k8.wF14 ?_; (case c1 => first | omega | l_fact); (case c2 => first | omega | l_fact); k_extra "e_con"); intro t9 h9 tk9 F9 N9; (try k_fold))
  trivial
def wday (y m d : Int) : Int := Int.fmod (dnum y m d + 3) 7
theorem con_weekday (w : World) (y mo d : Int) (t u v : Tok) (news) (h1 : 1 ≤ mo) (h2 : mo ≤ 12) : Con 4 w 200 [.int y t, .int mo u, .int d v] news (Pl (.int (wday y mo d))) := by
  unfold Con
  k_fill
  w_on
  intro mean mg mb dp un gd cn cs a ccd cl outer A₀ base h₀ L m s Q E B F X N T hk hd hu hret
  k_extra "e_enter"
  k_steps
  all_goals (refine ret_int hret (by k_asm) (by k_extra "e_news") ?_)
  all_goals rfl
theorem con_is_day (w : World) (y mo d : Int) (t u v : Tok) (news) (h1 : 1 ≤ y) (h2 : y ≤ 9999) (h3 : 1 ≤ mo) (h4 : mo ≤ 12) (h5 : 1 ≤ d) (h6 : d ≤ mlen y mo) : Con 4 w 207 [.int y t, .int mo u, .int d v] news (Pl (fun _ => .bool true)) := by
  unfold Con
  k_fill
  w_on
  intro mean mg mb dp un gd cn cs a ccd cl outer A₀ base h₀ L m s Q E B F X N T hk hd hu hret
  k_extra "e_enter"
  k_steps
  all_goals (refine ret_bool hret (by k_asm) (by k_extra "e_news") ?_)
  all_goals exact decide_eq_true h6
theorem con_is_time (w : World) (t u v : Tok) (news) : Con 4 w 214 [.int 1 t, .int 2 u, .int 3 v] news (Pl (fun _ => .bool true)) := by
  unfold Con
  k_fill
  w_on
  intro mean mg mb dp un gd cn cs a ccd cl outer A₀ base h₀ L m s Q E B F X N T hk hd hu hret
  k_extra "e_enter"
  k_steps
  all_goals (refine ret_bool hret (by k_asm) (by k_extra "e_news") ?_)
  all_goals rfl
end Mine
end PartF1
section PartF2
open PySem PySem.W PyProof.Rows
namespace Mine
theorem forgetF2 : True := by
  k_with_none
  trivial
theorem say_words2 : True := by
  k_with "e_news" => (first | k_asm | (refine' cb_drop ?cbN ?cbS; (case cbN => assumption); (case cbS => kcj_all)))
  k_with "e_enter" => (refine wpAny_call ?_; k_dflt cell_enter)
  k_with "e_con" => ((case k1 => k_asm); (case k2 => k_asm); (case k3 => k_asm); (case k4 => k_asm); (case k5 => k_asm); (case k6 => first | exact rfl | assumption); (case k7 => first | ((simp only [depth_under_make, depth_under_kw, depth_in1, depth_deeper, depth_caller, ktrTop]); omega) | ktr_room); (case k8 => first | ((simp only [units_under_make, units_in1, units_deeper, Around.mark_units, units_caller, ktrTop]); omega) | ktr_units); k_whole)
  trivial
theorem wordF21 : True := by
  k_with "compareOp In int bytes~" => (k_here; refine in_bytes_int (by omega) (by omega) ?_)
  trivial
theorem wordF22 : True := by
  k_with "compareOp In bytes bytes~" => (k_here; k_dflt (refine' in_bytes_bytes ?k1.wF22 ?k2.wF22 ?k3.wF22 ?_; (case k1 => k_asm); (case k2 => k_asm); (case k3 => exact rfl); k_whole); intro h9 tk9 F9 N9)
  trivial
theorem toList_beq (x y : Array UInt8) : (x.toList == y.toList) = decide (KBw.bInts x = KBw.bInts y) := by
  have inj : ∀ a b : List UInt8, (a.map fun c => ((c.toNat : Nat) : Int)) = (b.map fun c => ((c.toNat : Nat) : Int)) → a = b := by
    intro a
    induction a with
    | nil => intro b h; cases b with | nil => rfl | cons c r => cases h
    | cons c r ih => intro b h; cases b with
      | nil => cases h
      | cons d q =>
        simp only [List.map_cons, List.cons.injEq, Int.natCast_inj] at h
        rw [UInt8.toNat_inj.mp h.1, ih q h.2]
  by_cases h : KBw.bInts x = KBw.bInts y
  · rw [decide_eq_true h]
    rw [inj _ _ h]
    exact beq_self_eq_true _
  · rw [decide_eq_false h]
    refine beq_eq_false_iff_ne.mpr fun e => h ?_
    unfold KBw.bInts
    rw [e]
def atomSigns : Array UInt8 := #[33, 35, 36, 37, 38, 39, 42, 43, 45, 47, 61, 63, 94, 95, 96, 123, 124, 125, 126]
def atomB (c : Int) : Bool := (decide (48 ≤ c) && decide (c ≤ 57)) || (decide (65 ≤ c) && decide (c ≤ 90)) || (decide (97 ≤ c) && decide (c ≤ 122)) || decide (127 < c) || atomSigns.contains c.toNat.toUInt8
theorem atomB_eq (c : Int) : atomB c = if (48 ≤ c ∧ c ≤ 57) ∨ (65 ≤ c ∧ c ≤ 90) ∨ (97 ≤ c ∧ c ≤ 122) ∨ 127 < c then true else atomSigns.contains c.toNat.toUInt8 := by
  unfold atomB
  split
  · rename_i h
    rcases h with h | h | h | h <;> simp [h]
  · rename_i h
    have h1 : ¬ (48 ≤ c ∧ c ≤ 57) := fun x => h (.inl x)
    have h2 : ¬ (65 ≤ c ∧ c ≤ 90) := fun x => h (.inr (.inl x))
    have h3 : ¬ (97 ≤ c ∧ c ≤ 122) := fun x => h (.inr (.inr (.inl x)))
    have h4 : ¬ (127 < c) := fun x => h (.inr (.inr (.inr x)))
    rw [← Bool.decide_and, ← Bool.decide_and, ← Bool.decide_and, decide_eq_false h1, decide_eq_false h2, decide_eq_false h3, decide_eq_false h4]
    rfl
theorem atom_turn {ks : List Int} {e en : Int} (hend : e < ks.length → atomB (ks.getD e.toNat 0) = false) (h : en ≤ e) (h' : en < ks.length) (hb : atomB (ks.getD en.toNat 0) = true) : en + 1 ≤ e := by
  by_cases q : en = e
  · subst q
    rw [hend h'] at hb
    cases hb
  · omega
theorem con_is_atom_code (w : World) (c : Int) (t : Tok) (news) (h0 : 0 ≤ c) (h1 : c < 256) : Con 1 w 74 [.int c t] news (Pl fun _ => .bool (atomB c)) := by
  unfold Con
  k_fill
  w_on
  intro mean mg mb dp un gd cn cs a ccd cl outer A₀ base h₀ L m s Q E B F X N T hk hd hu hret
  k_extra "e_enter"
  k_steps
  all_goals (refine ret_bool hret (by k_asm) (by k_extra "e_news") ?_)
  all_goals (clear hret; first | (rw [atomB_eq, if_pos (by omega)]; exact decide_eq_true (by omega)) | (rw [atomB_eq, if_neg (by omega)]; rfl))
theorem wordF23 : True := by
  k_with "call ref~" => (k_here; k_dflt (refine' Con.plain (con_is_atom_code _ _ _ _ ?c1.wF23 ?c2.wF23) ?k1.wF23 ?k2.wF23 ?k3.wF23 ?k4.wF23 ?k5.wF23 ?k6.wF23 ?k7.wF23 ?k8.wF23 ?_; (case c1 => omega); (case c2 => omega); k_extra "e_con"); intro t9 h9 tk9 F9 N9; (try k_fold))
  trivial
theorem take1 {ks : List Int} {at' : Int} (h0 : 0 ≤ at') (h1 : at' < ks.length) {j : Int} (hj : at' < j) : ∃ r, List.take (clipAt ks.length j - clipAt ks.length at') (List.drop (clipAt ks.length at') ks) = ks.getD at'.toNat 0 :: r := by
  have e1 : clipAt ks.length at' = at'.toNat := by
    unfold clipAt; split <;> omega
  have e2 : at'.toNat < clipAt ks.length j := by
    unfold clipAt; split <;> omega
  rw [e1]
  obtain ⟨n, hn⟩ : ∃ n, clipAt ks.length j - at'.toNat = n + 1 := ⟨clipAt ks.length j - at'.toNat - 1, by omega⟩
  rw [hn]
  have hlt : at'.toNat < ks.length := by omega
  rw [List.drop_eq_getElem_cons hlt, List.take_succ_cons]
  exact ⟨_, by rw [List.getD_eq_getElem?_getD, List.getElem?_eq_getElem hlt]; rfl⟩
theorem con_line_end (w : World) (b : Array UInt8) (ks : List Int) (at' : Int) (t u : Tok) (news) (hb : KBw.bInts b = ks) (hlen : ks.length ≤ 1000) (h0 : 0 ≤ at') (h1 : at' < ks.length) (h10 : ks.getD at'.toNat 0 ≠ 10) (h13 : ks.getD at'.toNat 0 ≠ 13): Con 1 w 81 [.bytes b t, .int at' u] news (Pl (.int (-1))) := by
  unfold Con
  k_fill
  w_on
  intro mean mg mb dp un gd cn cs a ccd cl outer A₀ base h₀ L m s Q E B F X N T hk hd hu hret
  k_extra "e_enter"
  k_steps
  all_goals (refine ret_int hret (by k_asm) (by k_extra "e_news") ?_)
  · exfalso
    obtain ⟨r, hr⟩ := take1 h0 h1 (j := at' + 1) (by omega)
    have q := ‹((KBy.picked b (some at') (some (at' + 1))).toList == #[10].toList) = true›
    rw [toList_beq, ‹KBw.bInts (KBy.picked b (some at') (some (at' + 1))) = _›, hr] at q
    have q' := of_decide_eq_true q
    exact h10 (List.cons.inj q').1
  · exfalso
    obtain ⟨r, hr⟩ := take1 h0 h1 (j := at' + 2) (by omega)
    have q := ‹((KBy.picked b (some at') (some (at' + 2))).toList == #[13, 10].toList) = true›
    rw [toList_beq, ‹KBw.bInts (KBy.picked b (some at') (some (at' + 2))) = _›, hr] at q
    have q' := of_decide_eq_true q
    exact h13 (List.cons.inj q').1
  · rfl
theorem wordF24 : True := by
  k_with "eval Call~" => (k_here; (with_reducible show wpAny _ _ (eval (Expr.Call (Expr.Name (PySem.Str.ofString "is_atom_code") _) _ _ _) _) _ _ _); k_dflt (refine Call_ ?_))
  trivial
/-- an atom's run: from at' to e -/
def AtomRun (ks : List Int) (at' e : Int) : Prop := 0 ≤ at' ∧ at' ≤ e ∧ e ≤ ks.length ∧ (∀ i : Int, at' ≤ i → i < e → atomB (ks.getD i.toNat 0) = true) ∧ (e < ks.length → atomB (ks.getD e.toNat 0) = false)
theorem atom_end {ks : List Int} {at' e en : Int} (R : AtomRun ks at' e) (h1 : at' ≤ en) (h : en ≤ e) (h2 : ¬ en < ks.length ∨ atomB (ks.getD en.toNat 0) = false) : en = e := by
  obtain ⟨_, _, r3, r4, _⟩ := R
  rcases h2 with h2 | h2
  · omega
  · rcases Int.lt_or_eq_of_le h with q | q
    · rw [r4 en h1 q] at h2; cases h2
    · exact q
def cut (ks : List Int) (at' e : Int) : List Int := (ks.drop at'.toNat).take (e.toNat - at'.toNat)
theorem cut_eq {ks : List Int} {at' e : Int} (R : AtomRun ks at' e) : List.take (clipAt ks.length e - clipAt ks.length at') (List.drop (clipAt ks.length at') ks) = cut ks at' e := by
  obtain ⟨r1, r2, r3, _, _⟩ := R
  have e1 : clipAt ks.length at' = at'.toNat := by
    unfold clipAt; split <;> omega
  have e2 : clipAt ks.length e = e.toNat := by
    unfold clipAt; split <;> omega
  rw [e1, e2]; rfl
def pairObj (x y : Value) : Obj := { cls := .type "tuple", data := .seq #[x, y] }
def AtomOut (ks : List Int) (at' e : Int) (r : Value) (tl : List (Addr × Obj)) : Prop := ∃ D wb t1 t2, tl = [(D, pairObj (.bytes wb t1) (.int e t2))] ∧ r = .ref D ∧ KBw.bInts wb = cut ks at' e
theorem con_atom_at (w : World) (b : Array UInt8) (ks : List Int) (at' e : Int) (t u : Tok) (news) (hb : KBw.bInts b = ks) (hlen : ks.length ≤ 1000) (R : AtomRun ks at' e) : Con 2 w 109 [.bytes b t, .int at' u] news (AtomOut ks at' e) := by
  unfold Con
  k_fill
  w_on
  obtain ⟨h0, h1, h2, hat, hend⟩ := R
  have R : AtomRun ks at' e := ⟨h0, h1, h2, hat, hend⟩
  intro mean mg mb dp un gd cn cs a ccd cl outer A₀ base h₀ L m s Q E B F X N T hk hd hu hret
  k_with "exec While BoolOp cons nil" => k_while (fun script en => at' ≤ en ∧ en ≤ e) (fun script en => ((ks.length : Int) - en).toNat) "end"
  k_with "state" => exact ⟨by omega, atom_turn hend (by assumption) (by assumption) (by assumption)⟩
  k_extra "e_enter"
  k_steps
  · rename at' ≤ _ => hL
    rename _ ≤ e => hR
    rename KBw.bInts _ = _ => hK
    rename (∀ p : Addr × Obj, p ∈ news → p.1 < _) => hl
    have q := atom_end R hL hR (.inr (by assumption))
    subst q
    exact hret _ [_] _ _ (by k_asm) (by k_asm) (fun q hq p hp => by rw [List.mem_singleton.mp hp]; exact Nat.ne_of_lt (hl q hq)) ⟨_, _, _, _, rfl, rfl, hK.trans (cut_eq R)⟩
  · rename at' ≤ _ => hL
    rename _ ≤ e => hR
    rename KBw.bInts _ = _ => hK
    rename (∀ p : Addr × Obj, p ∈ news → p.1 < _) => hl
    have q := atom_end R hL hR (.inl (by assumption))
    subst q
    exact hret _ [_] _ _ (by k_asm) (by k_asm) (fun q hq p hp => by rw [List.mem_singleton.mp hp]; exact Nat.ne_of_lt (hl q hq)) ⟨_, _, _, _, rfl, rfl, hK.trans (cut_eq R)⟩
end Mine
end PartF2
section PartF3
open PySem PySem.W PyProof.Rows
namespace Mine
theorem forgetF3 : True := by
  k_with_none
  trivial
theorem say_words3 : True := by
  k_with "e_news" => (first | k_asm | (refine' cb_drop ?cbN ?cbS; (case cbN => assumption); (case cbS => kcj_all)))
  k_with "e_enter" => (refine wpAny_call ?_; k_dflt cell_enter)
  k_with "e_con" => ((case k1 => k_asm); (case k2 => k_asm); (case k3 => k_asm); (case k4 => k_asm); (case k5 => k_asm); (case k6 => first | exact rfl | assumption); (case k7 => first | ((simp only [depth_under_make, depth_under_kw, depth_in1, depth_deeper, depth_caller, ktrTop]); omega) | ktr_room); (case k8 => first | ((simp only [units_under_make, units_in1, units_deeper, Around.mark_units, units_caller, ktrTop]); omega) | ktr_units); k_whole)
  trivial
theorem wordF31 : True := by
  k_with "call ref~" => (k_here; k_dflt (refine' Con.plain (con_line_end _ _ _ _ _ _ _ ?c1.wF31 ?c2.wF31 ?c3.wF31 ?c4.wF31 ?c6.wF31 ?c7.wF31) ?k1.wF31 ?k2.wF31 ?k3.wF31 ?k4.wF31 ?k5.wF31 ?k6.wF31 ?k7.wF31 ?k8.wF31 ?_; (case c1 => assumption); (case c2 => assumption); (case c3 => omega); (case c4 => omega); (case c6 => k_extra "le6"); (case c7 => k_extra "le7"); k_extra "e_con"); intro t9 h9 tk9 F9 N9; (try k_fold))
  trivial
def WhiteRun (ks : List Int) (at' e : Int) : Prop := 0 ≤ at' ∧ at' ≤ e ∧ e ≤ ks.length ∧ (∀ i : Int, at' ≤ i → i < e → ks.getD i.toNat 0 = 32) ∧ (e < ks.length → ks.getD e.toNat 0 ≠ 9 ∧ ks.getD e.toNat 0 ≠ 32 ∧ ks.getD e.toNat 0 ≠ 10 ∧ ks.getD e.toNat 0 ≠ 13)
theorem white_stop {ks : List Int} {at' e en : Int} (R : WhiteRun ks at' e) (h1 : at' ≤ en) (h2 : en ≤ e) (h3 : en < ks.length) (h4 : ([9, 32].any fun x => x == ks.getD en.toNat 0) = false) : en = e ∧ ks.getD en.toNat 0 ≠ 10 ∧ ks.getD en.toNat 0 ≠ 13 := by
  obtain ⟨_, _, _, r4, r5⟩ := R
  rcases Int.lt_or_eq_of_le h2 with q | q
  · rw [r4 en h1 q] at h4; cases h4
  · subst q
    exact ⟨rfl, (r5 h3).2.2⟩
theorem white_turn {ks : List Int} {at' e en : Int} (R : WhiteRun ks at' e) (h2 : en ≤ e) (h3 : en < ks.length) (h4 : ([9, 32].any fun x => x == ks.getD en.toNat 0) = true) : en + 1 ≤ e := by
  obtain ⟨_, _, _, r4, r5⟩ := R
  by_cases q : en = e
  · subst q
    have := r5 h3
    simp only [List.any_cons, List.any_nil, Bool.or_false, Bool.or_eq_true, beq_iff_eq] at h4
    omega
  · omega
theorem con_past_white (w : World) (b : Array UInt8) (ks : List Int) (at' e : Int) (t u : Tok) (news) (hb : KBw.bInts b = ks) (hlen : ks.length ≤ 1000) (R : WhiteRun ks at' e) : Con 2 w 123 [.bytes b t, .int at' u] news (Pl (.int e)) := by
  unfold Con
  k_fill
  w_on
  obtain ⟨h0, h1, h2, hat, hend⟩ := R
  have R : WhiteRun ks at' e := ⟨h0, h1, h2, hat, hend⟩
  intro mean mg mb dp un gd cn cs a ccd cl outer A₀ base h₀ L m s Q E B F X N T hk hd hu hret
  k_with "exec While Compare cons nil" => k_while (fun script en => at' ≤ en ∧ en ≤ e) (fun script en => ((ks.length : Int) - en).toNat) "at"
  k_with "state" => exact ⟨by omega, white_turn R (by assumption) (by assumption) (by assumption)⟩
  k_with "le6" => exact (white_stop R (by assumption) (by assumption) (by assumption) (by assumption)).2.1
  k_with "le7" => exact (white_stop R (by assumption) (by assumption) (by assumption) (by assumption)).2.2
  k_extra "e_enter"
  k_steps
  all_goals (refine ret_int hret (by k_asm) (by k_extra "e_news") ?_)
  · exact (white_stop R (by assumption) (by assumption) (by assumption) (by assumption)).1
  · omega
end Mine
end PartF3
section PartF4
open PySem PySem.W PyProof.Rows
namespace Mine
theorem forgetF4 : True := by
  k_with_none
  trivial
theorem say_words4 : True := by
  k_with "e_news" => (first | k_asm | (refine' cb_drop ?cbN ?cbS; (case cbN => assumption); (case cbS => kcj_all)))
  k_with "e_enter" => (refine wpAny_call ?_; k_dflt cell_enter)
  k_with "e_con" => ((case k1 => k_asm); (case k2 => k_asm); (case k3 => k_asm); (case k4 => k_asm); (case k5 => k_asm); (case k6 => first | exact rfl | assumption); (case k7 => first | ((simp only [depth_under_make, depth_under_kw, depth_in1, depth_deeper, depth_caller, ktrTop]); omega) | ktr_room); (case k8 => first | ((simp only [units_under_make, units_in1, units_deeper, Around.mark_units, units_caller, ktrTop]); omega) | ktr_units); k_whole)
  trivial
section
variable {prog : Program} {w : World} {A : Around} {E : Value → Shared → Prop} {s : Shared} {b c : Array UInt8} {t u : Tok} {Q : Value → Shared → Prop}
theorem eq_bytes_no (h : KBw.bInts b ≠ KBw.bInts c) (hq : Q (.bool false) s) : wpAny (model prog w) A (compareOp .Eq (.bytes b t) (.bytes c u)) Q E s := eq_bytes (by rw [toList_beq, decide_eq_false h]; exact hq)
theorem in_bytes_val {h₀ : Heap} {L : Addr} {m : PySem.Str → Option Value} {news : List (Addr × Obj)} {v : Bool} (F : Fr h₀ L s.heap m) (N : News h₀ L s.heap news) (hh : A.handled = none) (hv : (Builtin.Bytes.find? b c 0 b.size).isSome = v)
    (h : ∀ h' tk, Fr h₀ L h' m → News h₀ L h' news → Q (.bool v) { s with heap := h', toks := tk }) : wpAny (model prog w) A (compareOp .In (.bytes c u) (.bytes b t)) Q E s := in_bytes_bytes F N hh (by rw [hv]; exact h)
end
theorem bInts_inj {x y : Array UInt8} (h : KBw.bInts x = KBw.bInts y) : x = y := by
  have e := toList_beq x y
  rw [decide_eq_true h] at e
  exact Array.toList_inj.mp (eq_of_beq e)
theorem one_ne {x : Array UInt8} {ks : List Int} {at' : Int} (hK : KBw.bInts x = List.take (clipAt ks.length (at' + 1) - clipAt ks.length at') (List.drop (clipAt ks.length at') ks)) (h0 : 0 ≤ at') (h1 : at' < ks.length) {d : UInt8} (hd : ks.getD at'.toNat 0 ≠ ((d.toNat : Nat) : Int)) : KBw.bInts x ≠ KBw.bInts #[d] := by
  obtain ⟨r, hr⟩ := take1 (ks := ks) h0 h1 (j := at' + 1) (by omega)
  rw [hK, hr]
  intro e
  exact hd (List.cons.inj e).1
theorem one_is {x : Array UInt8} {ks : List Int} {at' : Int} (hK : KBw.bInts x = List.take (clipAt ks.length (at' + 1) - clipAt ks.length at') (List.drop (clipAt ks.length at') ks)) (h0 : 0 ≤ at') (h1 : at' < ks.length) : KBw.bInts x = [ks.getD at'.toNat 0] := by
  have e1 : clipAt ks.length at' = at'.toNat := by
    unfold clipAt; split <;> omega
  have e2 : clipAt ks.length (at' + 1) = at'.toNat + 1 := by
    unfold clipAt; split <;> omega
  rw [hK, e1, e2, Nat.add_sub_cancel_left]
  have hlt : at'.toNat < ks.length := by omega
  rw [List.drop_eq_getElem_cons hlt, List.take_succ_cons, List.take_zero, List.getD_eq_getElem?_getD, List.getElem?_eq_getElem hlt]
  rfl
def signs : Array UInt8 := #[60, 62, 64, 44, 59, 58, 46, 92]
theorem signs_no : ∀ n : Nat, n < 256 → atomB (n : Int) = true → (Builtin.Bytes.find? signs #[n.toUInt8] 0 signs.size).isSome = false ∧ n ≠ 34 ∧ n ≠ 91 ∧ n ≠ 40 := by decide +kernel
theorem sign_no {x : Array UInt8} {c : Int} (hx : KBw.bInts x = [c]) (ha : atomB c = true) : (Builtin.Bytes.find? signs x 0 signs.size).isSome = false ∧ c ≠ 34 ∧ c ≠ 91 ∧ c ≠ 40 := by
  have hin := KBw.ints_in (b := x) (k := c) (by rw [hx]; exact .head _)
  obtain ⟨n, rfl⟩ : ∃ n : Nat, c = n := ⟨c.toNat, by omega⟩
  have hn : n < 256 := by omega
  have e : x = #[n.toUInt8] := bInts_inj (by
    rw [hx]
    show [(n : Int)] = [((n.toUInt8.toNat : Nat) : Int)]
    have : n.toUInt8.toNat = n := by
      show n % 256 = n
      omega
    rw [this])
  have := signs_no n hn ha
  rw [e]
  refine ⟨this.1, ?_, ?_, ?_⟩ <;> omega
theorem con_is_atom_val (w : World) (c : Int) (t : Tok) (news) (v : Bool) (h0 : 0 ≤ c) (h1 : c < 256) (h : atomB c = v) : Con 1 w 74 [.int c t] news (Pl fun _ => .bool v) := h ▸ con_is_atom_code w c t news h0 h1
def tripObj (x y z : Value) : Obj := { cls := .type "tuple", data := .seq #[x, y, z] }
/-- a token's answer: (kind, worth, at), behind -/
def TokOut (kind : PySem.Str) (wk : List Int) (at' e : Int) (r : Value) (tl : List (Addr × Obj)) : Prop := ∃ D1 D2 wb t1 t2 t3 t4, tl = [(D2, pairObj (.ref D1) (.int e t4)), (D1, tripObj (.str kind t1) (.bytes wb t2) (.int at' t3))] ∧ D1 < D2 ∧ r = .ref D2 ∧ KBw.bInts wb = wk
theorem wordF41 : True := by
  k_with "compareOp Eq bytes bytes~" => (k_here; k_dflt (refine' eq_bytes_no ?c1.wF41 ?_; (case c1 => k_extra "sign_ne")))
  trivial
theorem wordF42 : True := by
  k_with "compareOp In bytes bytes~" => (k_here; k_dflt (refine' in_bytes_val ?k1.wF42 ?k2.wF42 ?k3.wF42 ?k4.wF42 ?_; (case k1 => k_asm); (case k2 => k_asm); (case k3 => exact rfl); (case k4 => k_extra "sign_in"); k_whole); intro h9 tk9 F9 N9)
  trivial
theorem wordF43 : True := by
  k_with "call ref~" => (k_here; k_dflt (refine' Con.plain (con_is_atom_val _ _ _ _ _ ?c1.wF43 ?c2.wF43 ?c3.wF43) ?k1.wF43 ?k2.wF43 ?k3.wF43 ?k4.wF43 ?k5.wF43 ?k6.wF43 ?k7.wF43 ?k8.wF43 ?_; (case c1 => omega); (case c2 => omega); (case c3 => assumption); k_extra "e_con"); intro t9 h9 tk9 F9 N9; (try k_fold))
  trivial
theorem wordF44 : True := by
  k_with "eval Call~" => (k_here; (with_reducible show wpAny _ _ (eval (Expr.Call (Expr.Name (PySem.Str.ofString "is_atom_code") _) _ _ _) _) _ _ _); k_dflt (refine Call_ ?_))
  trivial
theorem wordF45 : True := by
  k_with "call ref~" => (k_here; k_dflt (refine' Con.use (con_atom_at _ _ _ _ _ _ _ _ ?c1.wF45 ?c2.wF45 ?c3.wF45) ?k1.wF45 ?k2.wF45 ?k3.wF45 ?k4.wF45 ?k5.wF45 ?k6.wF45 ?k7.wF45 ?k8.wF45 ?_; (case c1 => assumption); (case c2 => assumption); (case c3 => assumption); k_extra "e_con"); intro r9 tl9 h9 tk9 F9 N9 O9 P9; k_dflt (obtain ⟨D9, wb9, t9, u9, q9, p9, k9⟩ := P9); subst q9; subst p9; (simp only [List.cons_append, List.nil_append, pairObj] at N9); (try k_fold))
  trivial
theorem mem_drop3 {α : Type} {x y z : α} {l : List α} : ∀ p ∈ [x, y] ++ l, p ∈ x :: y :: z :: l := fun p hp => by
  rcases List.mem_append.mp hp with h | h
  · rcases List.mem_cons.mp h with h | h
    · exact h ▸ .head _
    · rw [List.mem_singleton.mp h]; exact .tail _ (.head _)
  · exact .tail _ (.tail _ (.tail _ h))
theorem two_lt {a b : Addr} {o o' : Obj} {l : List (Addr × Obj)} (h1 : AllLt a l) (h2 : AllLt b l) : ∀ q ∈ l, ∀ p ∈ [(a, o), (b, o')], q.1 ≠ p.1 := fun q hq p hp => by
  rcases List.mem_cons.mp hp with h | h
  · rw [h]; exact Nat.ne_of_lt (ktn_ltOf h1 q hq)
  · rw [List.mem_singleton.mp h]; exact Nat.ne_of_lt (ktn_ltOf h2 q hq)
theorem con_token_atom (w : World) (b : Array UInt8) (ks : List Int) (at' e : Int) (t u : Tok) (news) (hb : KBw.bInts b = ks) (hlen : ks.length ≤ 1000) (R : AtomRun ks at' e) (hlt : at' < e) : Con 3 w 116 [.bytes b t, .int at' u] news (TokOut (PySem.Str.ofString "atom") (cut ks at' e) at' e) := by
  unfold Con
  k_fill
  w_on
  obtain ⟨h0, h1, h2, hat, hend⟩ := R
  have R : AtomRun ks at' e := ⟨h0, h1, h2, hat, hend⟩
  have hl : at' < ks.length := by omega
  have ha := hat at' (by omega) hlt
  intro mean mg mb dp un gd cn cs a ccd cl outer A₀ base h₀ L m s Q E B F X N T hk hd hu hret
  k_with "sign_ne" => ((with_reducible rename KBw.bInts _ = _ => hK); exact one_ne hK h0 hl (by first | exact (sign_no (one_is hK h0 hl) ha).2.1 | exact (sign_no (one_is hK h0 hl) ha).2.2.1 | exact (sign_no (one_is hK h0 hl) ha).2.2.2))
  k_with "sign_in" => ((with_reducible rename KBw.bInts _ = _ => hK); exact (sign_no (one_is hK h0 hl) ha).1)
  k_extra "e_enter"
  k_steps
  rename KBw.bInts _ = cut _ _ _ => hK
  rename (_ < _ ∧ _ < _ ∧ AllLt _ _) => l2
  rename (_ < _ ∧ AllLt _ _) => l1
  rename News h₀ L _ _ => hN
  exact hret _ [_, _] _ _ (by k_asm) (cb_drop hN mem_drop3) (two_lt l2.2.2 l1.2) ⟨_, _, _, _, _, _, _, rfl, l2.1, rfl, hK⟩
theorem sign_yes {x : Array UInt8} {c : Int} (hx : KBw.bInts x = [c]) (hc : c = 44 ∨ c = 58) : (Builtin.Bytes.find? signs x 0 signs.size).isSome = true := by
  rcases hc with rfl | rfl
  · have e : x = #[44] := bInts_inj hx
    rw [e]; decide +kernel
  · have e : x = #[58] := bInts_inj hx
    rw [e]; decide +kernel
theorem con_token_sign (w : World) (b : Array UInt8) (ks : List Int) (at' c : Int) (t u : Tok) (news) (hb : KBw.bInts b = ks) (hlen : ks.length ≤ 1000) (h0 : 0 ≤ at') (hl : at' < ks.length) (hg : ks.getD at'.toNat 0 = c) (hc : c = 44 ∨ c = 58) : Con 3 w 116 [.bytes b t, .int at' u] news (TokOut (PySem.Str.ofString "sign") [c] at' (at' + 1)) := by
  unfold Con
  k_fill
  w_on
  intro mean mg mb dp un gd cn cs a ccd cl outer A₀ base h₀ L m s Q E B F X N T hk hd hu hret
  k_with "sign_ne" => ((with_reducible rename KBw.bInts _ = _ => hK); exact one_ne hK h0 hl (by rw [hg]; rcases hc with rfl | rfl <;> decide))
  k_with "sign_in" => ((with_reducible rename KBw.bInts _ = _ => hK); exact sign_yes (one_is hK h0 hl) (by rw [hg]; exact hc))
  k_extra "e_enter"
  k_steps
  rename KBw.bInts _ = _ => hK
  rename (_ < _ ∧ AllLt _ _) => l2
  rename (∀ p : Addr × Obj, p ∈ news → p.1 < _) => l1
  rename News h₀ L _ _ => hN
  exact hret _ [_, _] _ _ (by k_asm) hN (two_lt l2.2 (allLt_of l1)) ⟨_, _, _, _, _, _, _, rfl, l2.1, rfl, (one_is hK h0 hl).trans (by rw [hg])⟩
end Mine
end PartF4
section PartF5
open PySem PySem.W PyProof.Rows
namespace Mine
theorem forgetF5 : True := by
  k_with_none
  trivial
theorem say_words5 : True := by
  k_with "e_news" => (first | k_asm | (refine' cb_drop ?cbN ?cbS; (case cbN => assumption); (case cbS => kcj_all)))
  k_with "e_enter" => (refine wpAny_call ?_; k_dflt cell_enter)
  k_with "e_con" => ((case k1 => k_asm); (case k2 => k_asm); (case k3 => k_asm); (case k4 => k_asm); (case k5 => k_asm); (case k6 => first | exact rfl | assumption); (case k7 => first | ((simp only [depth_under_make, depth_under_kw, depth_in1, depth_deeper, depth_caller, ktrTop]); omega) | ktr_room); (case k8 => first | ((simp only [units_under_make, units_in1, units_deeper, Around.mark_units, units_caller, ktrTop]); omega) | ktr_units); k_whole)
  trivial
/-- a token at at', and where the next begins -/
inductive TokAt (ks : List Int) : PySem.Str → List Int → Int → Int → Prop where
  | atom {at' e : Int} {wk : List Int} : AtomRun ks at' e → at' < e → wk = cut ks at' e → TokAt ks (PySem.Str.ofString "atom") wk at' e
  | sign {at' c e : Int} : 0 ≤ at' → at' < ks.length → ks.getD at'.toNat 0 = c → (c = 44 ∨ c = 58) → e = at' + 1 → TokAt ks (PySem.Str.ofString "sign") [c] at' e
theorem con_token (w : World) (b : Array UInt8) (ks : List Int) (kind : PySem.Str) (wk : List Int) (at' e : Int) (t u : Tok) (news) (hb : KBw.bInts b = ks) (hlen : ks.length ≤ 1000) (R : TokAt ks kind wk at' e) : Con 3 w 116 [.bytes b t, .int at' u] news (TokOut kind wk at' e) := by
  cases R with
  | atom R h e => subst e; exact con_token_atom w b ks _ _ t u news hb hlen R h
  | sign h0 h1 h2 h3 h4 => subst h4; exact con_token_sign w b ks _ _ t u news hb hlen h0 h1 h2 h3
theorem wordF51 : True := by
  k_with "call ref~" => (k_here; k_dflt (refine' Con.plain (con_past_white _ _ _ _ _ _ _ _ ?c1.wF51 ?c2.wF51 ?c3.wF51) ?k1.wF51 ?k2.wF51 ?k3.wF51 ?k4.wF51 ?k5.wF51 ?k6.wF51 ?k7.wF51 ?k8.wF51 ?_; (case c1 => assumption); (case c2 => assumption); (case c3 => assumption); k_extra "e_con"); intro t9 h9 tk9 F9 N9; (try k_fold))
  trivial
theorem wordF52 : True := by
  k_with "call ref~" => (k_here; k_dflt (refine' Con.use (con_token _ _ _ _ _ _ _ _ _ _ ?c1.wF52 ?c2.wF52 ?c3.wF52) ?k1.wF52 ?k2.wF52 ?k3.wF52 ?k4.wF52 ?k5.wF52 ?k6.wF52 ?k7.wF52 ?k8.wF52 ?_; (case c1 => assumption); (case c2 => assumption); (case c3 => assumption); k_extra "e_con"); k_dflt (k_extra "tok_post"); (try k_fold))
  trivial
theorem ne_below {d : Addr} {l : List (Addr × Obj)} (h : ∀ p ∈ l, p.1 < d) : ∀ p ∈ l, p.1 ≠ d := fun p hp => Nat.ne_of_lt (h p hp)
local macro_rules | `(tactic| k_ne) => `(tactic| (refine neN ?_; first | assumption | exact Ne.symm (by assumption)))
local macro_rules | `(tactic| k_all) => `(tactic| first | assumption | exact ne_below (by assumption))
local macro_rules | `(tactic| k_mem) => `(tactic| first | assumption | exact List.Mem.tail _ (by assumption))
theorem wordF53 : True := by
  k_with "call builtin:list.append~" => (k_here; k_dflt ((show PySem.wpAny _ _ (PySem.call (Value.builtin "list.append") [Value.ref _, _]) _ _ _); refine' append_K ?k1.wF53 ?k2.wF53 ?k3.wF53 ?_ ?z.wF53; (case k1 => k_asm); (case k2 => k_asm); (case k3 => k_upd); (case z => exact Nat.le_of_ble_eq_true rfl); k_whole); intro h' F' N'; (try k_sweep))
  trivial
theorem wordF54 : True := by
  k_with "WhlIf~" => first | (refine WhlIf.yes (decide_eq_true (by omega)) ?_) | (refine WhlIf.no (decide_eq_false (by omega)) ?_)
  trivial
/-- a token of the ledger's and what stands below it, the list's own object ahead -/
theorem tok_fold {h₀ h : Heap} {L l D E : Addr} {lo o1 o2 : Obj} {rest acc news : List (Addr × Obj)} (N : News h₀ L h ([(E, o2), (D, o1)] ++ ((l, lo) :: rest))) (O : ∀ q ∈ (l, lo) :: rest, ∀ p ∈ [(E, o2), (D, o1)], q.1 ≠ p.1) (hne : ∀ p ∈ rest, p.1 ≠ l)
    (hn : ∀ p ∈ news, p ∈ rest) (hs : ∀ p ∈ acc, p ∈ rest) : ∃ rest', News h₀ L h ((l, lo) :: rest') ∧ (E, o2) ∈ rest' ∧ (∀ p ∈ rest', p.1 ≠ l) ∧ (∀ q ∈ news, q.1 ≠ D) ∧ (∀ p ∈ news, p ∈ rest') ∧ (∀ p ∈ (D, o1) :: acc, p ∈ rest') := by
  have mE : (E, o2) ∈ [(E, o2), (D, o1)] := .head _
  have mD : (D, o1) ∈ [(E, o2), (D, o1)] := .tail _ (.head _)
  refine ⟨(E, o2) :: (D, o1) :: rest, cb_drop N fun p hp => ?_, .head _, fun p hp => ?_, fun q hq => O q (.tail _ (hn q hq)) _ mD, fun p hp => .tail _ (.tail _ (hn p hp)), fun p hp => ?_⟩
  · rcases List.mem_cons.mp hp with rfl | hp
    · exact .tail _ (.tail _ (.head _))
    · rcases List.mem_cons.mp hp with rfl | hp
      · exact .head _
      · rcases List.mem_cons.mp hp with rfl | hp
        · exact .tail _ (.head _)
        · exact .tail _ (.tail _ (.tail _ hp))
  · rcases List.mem_cons.mp hp with rfl | hp
    · exact Ne.symm (O _ (.head _) _ mE)
    · rcases List.mem_cons.mp hp with rfl | hp
      · exact Ne.symm (O _ (.head _) _ mD)
      · exact hne p hp
  · rcases List.mem_cons.mp hp with rfl | hp
    · exact .tail _ (.head _)
    · exact .tail _ (.tail _ (hs p hp))
theorem mid_sub {l : Addr × Obj} {ds news rest : List (Addr × Obj)} (h : ∀ p ∈ ds ++ news, p ∈ rest) : ∀ p ∈ ds ++ l :: news, p ∈ l :: rest := fun p hp => by
  rcases List.mem_append.mp hp with hp | hp
  · exact .tail _ (h p (List.mem_append.mpr (.inl hp)))
  · rcases List.mem_cons.mp hp with rfl | hp
    · exact .head _
    · exact .tail _ (h p (List.mem_append.mpr (.inr hp)))
theorem ord_nil {l : List (Addr × Obj)} : ∀ q ∈ l, ∀ p ∈ ([] : List (Addr × Obj)), q.1 ≠ p.1 := fun _ _ _ h => nomatch h
theorem ord_cons {a : Addr} {o : Obj} {l tl : List (Addr × Obj)} (h : ∀ q ∈ l, q.1 ≠ a) (k : ∀ q ∈ l, ∀ p ∈ tl, q.1 ≠ p.1) : ∀ q ∈ l, ∀ p ∈ (a, o) :: tl, q.1 ≠ p.1 := fun q hq p hp => by
  rcases List.mem_cons.mp hp with h' | h'
  · rw [h']; exact h q hq
  · exact k q hq p h'
def tokO (k : PySem.Str) (at' : Int) (x : Tok × Array UInt8 × Tok × Tok) : Obj := tripObj (.str k x.1) (.bytes x.2.1 x.2.2.1) (.int at' x.2.2.2)
def TokensOut (p : Int) (w0 w1 w2 w3 w4 w5 w6 w7 : List Int) (r : Value) (tl : List (Addr × Obj)) : Prop := ∃ (l D0 D1 D2 D3 D4 D5 D6 D7 D8 D9 D10 : Addr) (x0 x1 x2 x3 x4 x5 x6 x7 x8 x9 x10 : Tok × Array UInt8 × Tok × Tok), tl = [(D10, tokO (PySem.Str.ofString "atom") (p + 19) x10), (D9, tokO (PySem.Str.ofString "atom") (p + 16) x9), (D8, tokO (PySem.Str.ofString "sign") (p + 15) x8), (D7, tokO (PySem.Str.ofString "atom") (p + 13) x7), (D6, tokO (PySem.Str.ofString "sign") (p + 12) x6), (D5, tokO (PySem.Str.ofString "atom") (p + 10) x5), (D4, tokO (PySem.Str.ofString "atom") (p + 5) x4), (D3, tokO (PySem.Str.ofString "atom") (p + 1) x3), (D2, tokO (PySem.Str.ofString "atom") 5 x2), (D1, tokO (PySem.Str.ofString "sign") 3 x1), (D0, tokO (PySem.Str.ofString "atom") 0 x0), (l, listOf #[.ref D0, .ref D1, .ref D2, .ref D3, .ref D4, .ref D5, .ref D6, .ref D7, .ref D8, .ref D9, .ref D10] 11)] ∧ r = .ref l ∧ KBw.bInts x0.2.1 = w0 ∧ KBw.bInts x1.2.1 = [44] ∧ KBw.bInts x2.2.1 = w1 ∧ KBw.bInts x3.2.1 = w2 ∧ KBw.bInts x4.2.1 = w3 ∧ KBw.bInts x5.2.1 = w4 ∧ KBw.bInts x6.2.1 = [58] ∧ KBw.bInts x7.2.1 = w5 ∧ KBw.bInts x8.2.1 = [58] ∧ KBw.bInts x9.2.1 = w6 ∧ KBw.bInts x10.2.1 = w7
theorem con_tokens_of (w : World) (b : Array UInt8) (ks : List Int) (p : Int) (w0 w1 w2 w3 w4 w5 w6 w7 : List Int) (t : Tok) (news) (hb : KBw.bInts b = ks) (hlen : ks.length ≤ 1000) (hn : (ks.length : Int) = p + 24) (hp : 6 ≤ p)
  (W0 : WhiteRun ks 0 0) (T0 : TokAt ks (PySem.Str.ofString "atom") w0 0 3) (W1 : WhiteRun ks 3 3) (T1 : TokAt ks (PySem.Str.ofString "sign") [44] 3 4) (W2 : WhiteRun ks 4 5) (T2 : TokAt ks (PySem.Str.ofString "atom") w1 5 p) (W3 : WhiteRun ks p (p + 1))
  (T3 : TokAt ks (PySem.Str.ofString "atom") w2 (p + 1) (p + 4)) (W4 : WhiteRun ks (p + 4) (p + 5)) (T4 : TokAt ks (PySem.Str.ofString "atom") w3 (p + 5) (p + 9)) (W5 : WhiteRun ks (p + 9) (p + 10))
  (T5 : TokAt ks (PySem.Str.ofString "atom") w4 (p + 10) (p + 12)) (W6 : WhiteRun ks (p + 12) (p + 12)) (T6 : TokAt ks (PySem.Str.ofString "sign") [58] (p + 12) (p + 13)) (W7 : WhiteRun ks (p + 13) (p + 13))
  (T7 : TokAt ks (PySem.Str.ofString "atom") w5 (p + 13) (p + 15)) (W8 : WhiteRun ks (p + 15) (p + 15)) (T8 : TokAt ks (PySem.Str.ofString "sign") [58] (p + 15) (p + 16)) (W9 : WhiteRun ks (p + 16) (p + 16))
  (T9 : TokAt ks (PySem.Str.ofString "atom") w6 (p + 16) (p + 18)) (W10 : WhiteRun ks (p + 18) (p + 19)) (T10 : TokAt ks (PySem.Str.ofString "atom") w7 (p + 19) (p + 24)) (W11 : WhiteRun ks (p + 24) (p + 24)) :
  Con 4 w 130 [.bytes b t] news (TokensOut p w0 w1 w2 w3 w4 w5 w6 w7) := by
  unfold Con
  k_fill
  w_on
  intro mean mg mb dp un gd cn cs a ccd cl outer A₀ base h₀ L m s Q E B F X N T hk hd hu hret
  k_with "tok_post" => (
    intro r9 tl9 h9 tk9 F9 N9 O9 P9
    obtain ⟨D9, E9, wb9, t9, u9, v9, w9, q9, l9, p9, k9⟩ := P9
    subst q9
    subst p9
    have X9 := tok_fold (news := news) N9 O9 (by first | assumption | exact ne_below (by assumption)) (by first | assumption | exact fun _ h => h) (by first | assumption | exact fun _ h => h)
    clear N9 O9 l9
    obtain ⟨R9, N8, e9, n9, c9, s9, g9⟩ := X9
    simp only [pairObj, tripObj] at e9 g9)
  k_extra "e_enter"
  k_steps
  rename News h₀ L _ _ => hN
  rename (∀ q : Addr × Obj, q ∈ news → q.1 < _) => l1
  have l2 := ne_below l1
  refine hret _ [_, _, _, _, _, _, _, _, _, _, _, _] _ _ (by k_asm) (cb_drop hN (mid_sub (ds := [_, _, _, _, _, _, _, _, _, _, _]) (by assumption))) ?_ ⟨_, _, _, _, _, _, _, _, _, _, _, _, (_, _, _, _), (_, _, _, _), (_, _, _, _), (_, _, _, _), (_, _, _, _), (_, _, _, _), (_, _, _, _), (_, _, _, _), (_, _, _, _), (_, _, _, _), (_, _, _, _), rfl, rfl, by assumption, by assumption, by assumption, by assumption, by assumption, by assumption, by assumption, by assumption, by assumption, by assumption, by assumption⟩
  repeat' (first | exact ord_nil | refine ord_cons (by assumption) ?_)
end Mine
end PartF5
section PartComp
open PySem PySem.W PyProof.Rows PySem.Calls
namespace Mine
/-- what a comprehension makes, item by item -/
inductive Made {α : Type} (g : α → Tok → Value) : List α → List Value → Prop where
  | nil : Made g [] []
  | cons {k : α} {ks : List α} {ys : List Value} (t : Tok) : Made g ks ys → Made g (k :: ks) (g k t :: ys)
theorem Made.snoc {α : Type} {g : α → Tok → Value} {k : α} {t : Tok} : ∀ {ks : List α} {ys : List Value}, Made g ks ys → Made g (ks ++ [k]) (ys ++ [g k t])
  | _, _, .nil => .cons t .nil
  | _, _, .cons u r => .cons u r.snoc
theorem Made.strs {α : Type} {f : α → PySem.Str} : ∀ {ks : List α} {ys : List Value}, Made (fun k t => .str (f k) t) ks ys → StrsAre ys (ks.map f)
  | _, _, .nil => .nil
  | _, _, .cons t r => .cons _ t r.strs
theorem Made.ints {α : Type} {f : α → Int} : ∀ {ks : List α} {ys : List Value}, Made (fun k t => .int (f k) t) ks ys → IntsAre ys (ks.map f)
  | _, _, .nil => .nil
  | _, _, .cons t r => .cons _ t r.ints
theorem Made.length {α : Type} {g : α → Tok → Value} : ∀ {ks : List α} {ys : List Value}, Made g ks ys → ys.length = ks.length
  | _, _, .nil => rfl
  | _, _, .cons _ r => congrArg (· + 1) r.length
/-- what iterates as these, above h₀ -/
def IterAs {α : Type} (prog : Program) (w : World) (h₀ : Heap) (mk : α → Tok → Value) (ks : List α) (xv : Value) : Prop :=
  ∀ (A : Around) (s : Shared) (Q : Value → Shared → Prop) (E : Value → Shared → Prop), A.handled = none → (∀ b o, h₀.get? b = some o → s.heap.get? b = some o) →
    (∀ (o : Obj) (fp : List Addr) (St : Nat → Heap → Prop), Walks prog w A s.heap.objs.size fp [s.heap.objs.size] ks.length (fun i v => ∃ k u, ks[i]? = some k ∧ v = mk k u) St → (∀ b ∈ fp, b ≤ s.heap.objs.size) → St 0 (s.heap.push o) →
      (∀ i h, St i h → ∃ o', h.get? s.heap.objs.size = some o') → (∀ i h h' o', St i h → h.get? s.heap.objs.size = some o' → h'.get? s.heap.objs.size = some o' → (∀ b o, h₀.get? b = some o → h'.get? b = some o) → St i h') →
      Q (.ref s.heap.objs.size) { s with heap := s.heap.push o }) → wpAny (model prog w) A (pyIter xv) Q E s
theorem iter_str {prog : Program} {w : World} {h₀ : Heap} {x : PySem.Str} {t : Tok} : IterAs prog w h₀ (fun k u => .str ⟨#[k]⟩ u) x.cps.toList (.str x t) := by
  intro A s Q E hh _ hQ
  have key : ∀ T : String, ∀ i (h : Heap), h.IsStrIter s.heap.objs.size T x t i → ∃ o', h.get? s.heap.objs.size = some o' := fun T i h st => let ⟨o, ho, _⟩ := st; ⟨o, ho⟩
  have key2 : ∀ T : String, ∀ i (h h' : Heap) o', h.IsStrIter s.heap.objs.size T x t i → h.get? s.heap.objs.size = some o' → h'.get? s.heap.objs.size = some o' → (∀ b o, h₀.get? b = some o → h'.get? b = some o) → h'.IsStrIter s.heap.objs.size T x t i := fun T i h h' o' st e e' _ => by
    obtain ⟨o, ho, r⟩ := st
    rw [e] at ho
    cases ho
    exact ⟨o', e', r⟩
  have eS : (fun (i : Nat) (v : Value) => ∃ (k : Nat) (u : Tok), x.cps.toList[i]? = some k ∧ v = .str ⟨#[k]⟩ u) = SignAt x := by
    funext i v
    simp only [SignAt, Array.getElem?_toList]
  have one : ∀ b ∈ [s.heap.objs.size], b ≤ s.heap.objs.size := fun b hb => by rw [List.mem_singleton.mp hb]; exact Nat.le_refl _
  cases ha : x.cps.all (· < 128)
  · exact wpAny_pyIter_wide ha (hQ _ _ _ (by rw [eS, Array.length_toList]; exact Walks.strWide hh s.heap.objs.size x t) one ⟨_, Heap.get?_push_size _ rfl, rfl, rfl⟩ (key _) (key2 _))
  · exact wpAny_pyIter_ascii ha (hQ _ _ _ (by rw [eS, Array.length_toList]; exact Walks.strAscii hh s.heap.objs.size x t) one ⟨_, Heap.get?_push_size _ rfl, rfl, rfl⟩ (key _) (key2 _))
theorem iter_bytes {prog : Program} {w : World} {h₀ : Heap} {b : Array UInt8} {t : Tok} : IterAs prog w h₀ (fun (k : Nat) u => .int (k : Int) u) (b.toList.map UInt8.toNat) (.bytes b t) := by
  intro A s Q E hh _ hQ
  have eS : (fun (i : Nat) (v : Value) => ∃ (k : Nat) (u : Tok), (b.toList.map UInt8.toNat)[i]? = some k ∧ v = .int (k : Int) u) = fun i v => ∃ (c : UInt8) (u : Tok), b[i]? = some c ∧ v = .int (c.toNat : Int) u := by
    funext i v
    simp only [List.getElem?_map, Array.getElem?_toList, Option.map_eq_some_iff]
    apply propext
    constructor
    · rintro ⟨k, u, ⟨c, h1, h2⟩, h3⟩
      exact ⟨c, u, h1, by rw [h3, h2]⟩
    · rintro ⟨c, u, h1, h2⟩
      exact ⟨c.toNat, u, ⟨c, h1, rfl⟩, h2⟩
  refine KBw.pyIter_bytes (hQ _ _ (fun i h => KBw.IsBytesIter h s.heap.objs.size b t i) (by rw [eS, List.length_map, Array.length_toList]; exact KBw.walks hh s.heap.objs.size b t) (fun b hb => by rw [List.mem_singleton.mp hb]; exact Nat.le_refl _) ⟨_, Heap.get?_push_size _ rfl, rfl, rfl⟩ (fun i h st => let ⟨o, ho, _⟩ := st; ⟨o, ho⟩) fun i h h' o' st e e' _ => ?_)
  obtain ⟨o, ho, r⟩ := st
  rw [e] at ho
  cases ho
  exact ⟨o', e', r⟩
/-- the items of a tuple that stands below -/
inductive Its {α : Type} (mk : α → Tok → Value) : List α → List Value → Prop where
  | nil : Its mk [] []
  | cons {k : α} {t : Tok} {ks : List α} {vs : List Value} : Its mk ks vs → Its mk (k :: ks) (mk k t :: vs)
theorem Its.length {α : Type} {mk : α → Tok → Value} : ∀ {ks : List α} {vs : List Value}, Its mk ks vs → vs.length = ks.length
  | _, _, .nil => rfl
  | _, _, .cons r => congrArg (· + 1) r.length
theorem Its.at {α : Type} {mk : α → Tok → Value} : ∀ {ks : List α} {vs : List Value}, Its mk ks vs → ∀ (i : Nat) (v : Value), vs[i]? = some v → ∃ k u, ks[i]? = some k ∧ v = mk k u
  | _, _, .nil, i, v, h => by simp at h
  | _, _, .cons (k := k) (t := t) r, 0, v, h => ⟨k, t, rfl, by simpa using h.symm⟩
  | _, _, .cons r, i + 1, v, h => by
    obtain ⟨k, u, h1, h2⟩ := r.at i v (by simpa using h)
    exact ⟨k, u, by simpa using h1, h2⟩
theorem iter_tuple {α : Type} {prog : Program} {w : World} {h₀ : Heap} {mk : α → Tok → Value} {ks : List α} {vs : List Value} {a : Addr} (ht : IsTup h₀ a vs.toArray) (hI : Its mk ks vs) : IterAs prog w h₀ mk ks (.ref a) := by
  intro A s Q E hh hk hQ
  have ht' : s.heap.IsTuple a vs.toArray := IsTup.keeps ht hk
  have hlt : a < s.heap.objs.size := by obtain ⟨_, e, _⟩ := ht'; exact Heap.lt_size e
  have W := Walks.tuple (prog := prog) (w := w) hh s.heap.objs.size a (Nat.ne_of_lt hlt) vs.toArray
  have hl : ks.length = vs.toArray.size := by rw [List.size_toArray, hI.length]
  have W' : Walks prog w A s.heap.objs.size [s.heap.objs.size, a] [s.heap.objs.size] ks.length (fun i v => ∃ k u, ks[i]? = some k ∧ v = mk k u) (fun i h => h.IsTupleIter s.heap.objs.size a i ∧ h.IsTuple a vs.toArray) := by
    rw [hl]
    exact { sub := W.sub, frame := W.frame, done := W.done, self := W.self, item := fun i s Q E hi st hQ => W.item i s Q E hi st fun v h' tk hP => hQ v h' tk (hI.at i v (by simpa using hP)) }
  refine wpAny_pyIter_tuple ht' (hQ _ _ _ W' (fun b hb => ?_) ⟨⟨_, Heap.get?_push_size _ rfl, rfl, rfl⟩, ht'.at fun o e => Heap.get?_push_of_some _ e⟩ (fun i h st => let ⟨o, ho, _⟩ := st.1; ⟨o, ho⟩) fun i h h' o' st e e' k' => ⟨?_, IsTup.keeps ht k'⟩)
  · rcases List.mem_cons.mp hb with rfl | hb
    · exact Nat.le_refl _
    · rw [List.mem_singleton.mp hb]; exact Nat.le_of_lt hlt
  · obtain ⟨o, ho, r⟩ := st.1
    rw [e] at ho
    cases ho
    exact ⟨o', e', r⟩
section
variable {α : Type} {prog : Program} {w : World} {A : Around} {E : Value → Shared → Prop} {s : Shared} {h₀ : Heap} {L : Addr} {m : PySem.Str → Option Value} {env : Env}
/-- a turn of the comprehension -/
def CodeTurn (prog : Program) (w : World) (A : Around) (h₀ : Heap) (L : Addr) (m : PySem.Str → Option Value) (env : Env) (elt : PySem.Expr) (x : PySem.Str) (scope : Scope) (cl : List (PySem.Str × Addr)) (mk g : α → Tok → Value) (ks : List α) (news : List (Addr × Obj)) (s : Shared) : Prop :=
  ∀ k t I oI C oC D m₂ ys h tk (E' : Value → Shared → Prop), k ∈ ks → LCg.NsObj oC m₂ → m₂ x = some (mk k t) → Fr h₀ L h m → News h₀ L h ((I, oI) :: (C, oC) :: (D, LCg.lst ys) :: news) → LCg.Off3 I C D news → ((@Ne Nat I C) ∧ (@Ne Nat I D) ∧ (@Ne Nat C D)) →
    wpAny (model prog w) A (eval elt (compEnvC scope cl C env)) (LCg.CompEnd h₀ L m { s with heap := h, toks := tk } I oI C oC D (LCg.lst ys) (fun _ => True) (fun y news' => news' = news ∧ ∃ u, y = g k u)) E' { s with heap := h, toks := tk }
def CodeSrc (prog : Program) (w : World) (A : Around) (h₀ : Heap) (L : Addr) (m : PySem.Str → Option Value) (env : Env) (elt : PySem.Expr) (x : PySem.Str) (scope : Scope) (cl : List (PySem.Str × Addr)) (g : α → Tok → Value) (Fin : List α → List (Addr × Obj) → Shared → Prop) (xv : Value) (s₁ : Shared) : Prop :=
  ∃ (mk : α → Tok → Value) (ks : List α) (news : List (Addr × Obj)), IterAs prog w h₀ mk ks xv ∧ A.handled = none ∧ Fr h₀ L s₁.heap m ∧ News h₀ L s₁.heap news ∧ ks.length ≤ sizeLine ∧
    (∀ g', CodeTurn prog w A h₀ L m env elt x scope cl mk g ks news { s₁ with heap := g' }) ∧ Fin ks news s₁
/-- the end: an expression's -/
def CodeFin (h₀ : Heap) (L : Addr) (m : PySem.Str → Option Value) (g : α → Tok → Value) (Q : Value → Shared → Prop) (ks : List α) (news : List (Addr × Obj)) (s₁ : Shared) : Prop :=
  ∀ ys D h tk, Made g ks ys → Fr h₀ L h m → News h₀ L h ((D, LCg.lst ys) :: news) → LCg.Off1 D news → Q (.ref D) { s₁ with heap := h, toks := tk }
/-- the end: an assignment's -/
def CodeFinA (h₀ : Heap) (L : Addr) (m : PySem.Str → Option Value) (y : PySem.Str) (g : α → Tok → Value) (Q : Flow → Shared → Prop) (ks : List α) (news : List (Addr × Obj)) (s₁ : Shared) : Prop :=
  ∀ ys D h tk, Made g ks ys → Fr h₀ L h (fun z => if z = y then some (.ref D) else m z) → News h₀ L h ((D, LCg.lst ys) :: news) → LCg.Off1 D news → Q .next { s₁ with heap := h, toks := tk }
theorem rest_of {elt : PySem.Expr} {x : PySem.Str} {scope : Scope} {cl : List (PySem.Str × Addr)} {mk g : α → Tok → Value} {ks : List α} {news : List (Addr × Obj)} {s : Shared} (turn : CodeTurn prog w A h₀ L m env elt x scope cl mk g ks news s) :
    ∀ (j i : Nat) (ys : List Value), i + j = ks.length → Made g (ks.take i) ys →
      LCg.CompRest prog w A h₀ L m env elt x scope cl s (fun _ => True) (fun i v => ∃ k u, ks[i]? = some k ∧ v = mk k u) (fun ys nw => nw = news ∧ Made g ks ys) j i ys news
  | 0, i, ys, hi, hm => by
    have e : i = ks.length := by omega
    subst e
    rw [List.take_length] at hm
    exact LCg.CompRest.zero ⟨rfl, hm⟩
  | j + 1, i, ys, hi, hm => by
    refine LCg.CompRest.succ ?_
    rintro v I oI C oC D m₂ h tk E' ⟨k, u, hk, rfl⟩ hC hx F N off ne
    refine wpAny_mono (turn k u I oI C oC D m₂ ys h tk E' (List.mem_of_getElem? hk) hC hx F N off ne) (fun y s₂ hq => ?_) fun _ _ e => e
    obtain ⟨h', tk', nw, e, F', N', off', hS, hn, u', hy⟩ := hq
    subst hn
    subst hy
    refine ⟨h', tk', nw, e, F', N', off', hS, ?_⟩
    refine rest_of turn j (i + 1) _ (by omega) ?_
    rw [List.take_add_one, hk]
    exact hm.snoc
theorem ListComp_codes (g : α → Tok → Value) {elt iter : PySem.Expr} {x : PySem.Str} {px : Pos} {scope : Scope} {cl : List (PySem.Str × Addr)} {pos : Pos} {Q : Value → Shared → Prop} (F₀ : Fr h₀ L s.heap m)
    (hclos : closureFor scope env = pure cl) (hcell : ∀ y ∈ scope.names, y.2 ≠ .cell) (hkind : scope.kind = .function)
    (hnames : ∀ y ∈ scope.names, y.2 = .local → scope.names.lookup y.1 = some .local) (hx : scope.names.lookup x = some .local)
    (h : wpAny (model prog w) A (eval iter env) (CodeSrc prog w A h₀ L m env elt x scope cl g (CodeFin h₀ L m g Q)) E s)
    (hs : ∀ x, foldedSetIterable iter env x = pure x := by intro _; rfl) :
    wpAny (model prog w) A (eval (.ListComp elt [⟨.Name x px, iter, [], 0⟩] scope pos) env) Q E s := by
  let _ := F₀
  rw [eval_ListComp]
  refine wpAny_comprehension_free (use := none) rfl hs hclos hkind hnames (wpAny_mono h (fun xv s₁ h₁ => ?_) fun _ _ e => e)
  obtain ⟨mk, ks, news, hit, hh, F, N, hsz, turn, fin⟩ := h₁
  refine hit A s₁ _ _ hh F.keep fun o fp St W hfp hst hIo hSt => ?_
  have up : ∀ b o', s₁.heap.get? b = some o' → (s₁.heap.push o).get? b = some o' := fun b o' e => Heap.get?_push_of_some _ e
  refine LCg.block_U (S := fun _ => True) (Fin := fun ys nw => nw = news ∧ Made g ks ys) W hsz hIo (fun i h h' o' nw st e e' k _ _ => hSt i h h' o' st e e' k) hcell hkind hx hst (fun b hb => ?_)
    (F.keeps up) (N.grown up) (Nat.ne_of_lt F.ns.lt) (next_is_new F) (fun p hp => Nat.ne_of_lt (Heap.lt_size (N p hp).1)) trivial (rest_of (turn _) ks.length 0 [] (by omega) (by rw [List.take_zero]; exact .nil)) ?_
  · show b < (s₁.heap.push o).objs.size
    rw [Heap.size_push]; exact Nat.lt_succ_of_le (hfp b hb)
  · intro D C h tk m' ys news' F' N' o1 hn hC₀ hD₀ hCL hDL hCD offC hfin
    obtain ⟨rfl, hm⟩ := hfin
    refine ⟨m', hn, fun h'' hs'' => fin ys D h'' tk hm (F'.change hs'' hCL hC₀) (fun p hp => ?_) o1⟩
    refine ⟨hs''.extBut _ _ ?_ (N' p hp).1, (N' p hp).2⟩
    rcases List.mem_cons.mp hp with rfl | hp
    · exact Ne.symm hCD
    · exact offC p hp
theorem Assign_codes (g : α → Tok → Value) {elt iter : PySem.Expr} {x y : PySem.Str} {px py : Pos} {scope : Scope} {cl : List (PySem.Str × Addr)} {pos spos : Pos} {Q : Flow → Shared → Prop} (F₀ : Fr h₀ L s.heap m) (hLe : env.locals = L)
    (hsw : swapsWith (.ListComp elt [⟨.Name x px, iter, [], 0⟩] scope pos) (some (.Name y py)) spos.line env = pure true)
    (hclos : closureFor scope env = pure cl) (hcell : ∀ z ∈ scope.names, z.2 ≠ .cell) (hkind : scope.kind = .function)
    (hnames : ∀ z ∈ scope.names, z.2 = .local → scope.names.lookup z.1 = some .local) (hx : scope.names.lookup x = some .local)
    (hy : env.kindOf y = some .local) (hp : (env.scope.kind == .class || (env.scope.kind == .module && env.locals != env.globals)) = false)
    (h : wpAny (model prog w) A (eval iter env) (CodeSrc prog w A h₀ L m env elt x scope cl g (CodeFinA h₀ L m y g Q)) E s)
    (hs : ∀ x, foldedSetIterable iter env x = pure x := by intro _; rfl) :
    wpAny (model prog w) A (exec (.Assign [.Name y py] (.ListComp elt [⟨.Name x px, iter, [], 0⟩] scope pos) spos) env) Q E s := by
  let _ := F₀
  subst hLe
  rw [exec_Assign_Name_used _ _ _ _ hsw]
  refine wpAny_bind (wpAny_standAt (wpAny_bind ?_))
  show wpAny _ A (do let _ ← comprehension (.ListComp elt [⟨.Name x px, iter, [], 0⟩] scope pos) scope env _ (newList []) false (eval iter env) (some (assign (.Name y py) env))) _ _ s
  refine wpAny_bind (wpAny_mono (wpAny_comprehension_free (use := some (assign (.Name y py) env)) (Q := fun _ s' => Q .next s') rfl hs hclos hkind hnames
    (wpAny_mono h (fun xv s₁ h₁ => ?_) fun _ _ e => e)) (fun _ s' hq => wpAny_pure (wpAny_pure hq)) fun _ _ e => e)
  obtain ⟨mk, ks, news, hit, hh, F, N, hsz, turn, fin⟩ := h₁
  refine hit A s₁ _ _ hh F.keep fun o fp St W hfp hst hIo hSt => ?_
  have up : ∀ b o', s₁.heap.get? b = some o' → (s₁.heap.push o).get? b = some o' := fun b o' e => Heap.get?_push_of_some _ e
  refine LCg.block_U (S := fun _ => True) (Fin := fun ys nw => nw = news ∧ Made g ks ys) W hsz hIo (fun i h h' o' nw st e e' k _ _ => hSt i h h' o' st e e' k) hcell hkind hx hst (fun b hb => ?_)
    (F.keeps up) (N.grown up) (Nat.ne_of_lt F.ns.lt) (next_is_new F) (fun p hp => Nat.ne_of_lt (Heap.lt_size (N p hp).1)) trivial (rest_of (turn _) ks.length 0 [] (by omega) (by rw [List.take_zero]; exact .nil)) ?_
  · show b < (s₁.heap.push o).objs.size
    rw [Heap.size_push]; exact Nat.lt_succ_of_le (hfp b hb)
  · intro D C h tk m' ys news' F' N' o1 hn hC₀ hD₀ hCL hDL hCD offC hfin
    obtain ⟨rfl, hm⟩ := hfin
    show wpAny _ A (assign (.Name y py) env (.ref D)) _ _ _
    have hL₀ : h₀.get? env.locals = none := Heap.get?_none_of_le F'.above
    refine wpAny_assign_Name (wpAny_storeName_local hy F'.ns (fun h₂ hn₂ hs₂ => ?_) hp)
    have F₂ : Fr h₀ env.locals h₂ (fun z => if z = y then some (.ref D) else m z) := ⟨hn₂, fun b o e => hs₂.extBut b o (fun q => by rw [q, hL₀] at e; cases e) (F'.keep b o e), F'.above⟩
    refine ⟨m', hn.sameBut hs₂ hCL, fun h'' hs'' => fin ys D h'' _ hm (F₂.change hs'' hCL hC₀) (fun p hp => ?_) o1⟩
    have z : h₂.get? p.1 = some p.2 := hs₂.extBut _ _ (N' p hp).2.1 (N' p hp).1
    refine ⟨hs''.extBut _ _ ?_ z, (N' p hp).2⟩
    rcases List.mem_cons.mp hp with rfl | hp
    · exact Ne.symm hCD
    · exact offC p hp
end
section
variable {prog : Program} {w : World} {A : Around} {E : Value → Shared → Prop} {s : Shared}
theorem isStrOf_at (k : PySem.Str) : ∀ {vs : List Value} {ys : List PySem.Str}, StrsAre vs ys → ∀ (j : Nat) (hv : j < vs.length) (hy : j < ys.length), isStrOf k vs[j] = (ys[j] == k)
  | _, _, .nil, j, hv, _ => absurd hv (Nat.not_lt_zero _)
  | _, _, .cons _ _ h, 0, _, _ => rfl
  | _, _, .cons _ _ h, j + 1, hv, hy => by
    simp only [List.getElem_cons_succ]
    exact isStrOf_at k h j _ _
theorem index_strs {l : Addr} {vs : List Value} {ys : List PySem.Str} {k : PySem.Str} {t : Tok} {j : Nat} {Q : Value → Shared → Prop} (hl : s.heap.IsList l vs.toArray) (hi : StrsAre vs ys)
    (hvl : vs.length = ys.length) (hj : j < ys.length) (hb : ys.length < 1000) (hit : ys[j] = k) (hno : ∀ (i : Nat) (h : i < ys.length), i < j → ys[i] ≠ k) (h : Q (.int (j : Nat) s.toks) { s with toks := s.toks + 1 }) :
    wpAny (model prog w) A (call (.builtin "list.index") [.ref l, .str k t]) Q E s := by
  obtain ⟨⟨cls, dd, data, sl⟩, ho, hc, n, hd⟩ := id hl
  simp only at hc hd
  subst hc hd
  refine call_meets PySem.F.slot_list_index ⟨_, ho, rfl⟩ PySem.F.entry_list_index (PySem.F.args_list_index_2 _ _)
    (PySem.SeqAt.list_indexAt l vs.toArray n dd sl (.str k t) (isStrOf k) j (by simpa [hvl] using hj) (by omega) ?_ ?_) ⟨ho, fun y hy => (eq_isStrOf k t hi y (by simpa using hy)).at _ _, h⟩
  · show isStrOf k vs[j] = true
    rw [isStrOf_at k hi j (by omega) hj, hit]
    exact beq_self_eq_true k
  · intro i his hlt
    show isStrOf k vs[i] = false
    rw [isStrOf_at k hi i (by simpa using his) (by have := his; simp at this; omega)]
    exact beq_eq_false_iff_ne.mpr (hno i _ hlt)
end
theorem empty_str : PySem.Str.ofString "" = ⟨#[]⟩ := by decide +kernel
theorem sjoin_codes (f : Nat → Nat) : ∀ ks : List Nat, PySem.Str.join (PySem.Str.ofString "") (ks.map fun k => (⟨#[f k]⟩ : PySem.Str)) = ⟨(ks.map f).toArray⟩
  | [] => rfl
  | [k] => rfl
  | k :: j :: r => by
    have ih := sjoin_codes f (j :: r)
    show (⟨#[f k]⟩ : PySem.Str) ++ PySem.Str.ofString "" ++ PySem.Str.join (PySem.Str.ofString "") ((j :: r).map fun k => (⟨#[f k]⟩ : PySem.Str)) = _
    rw [ih, empty_str]
    apply PySem.Str.ext'
    apply Array.toList_inj.mp
    simp [PySem.Str.cps_append]
theorem tjoin_eq (sep : PySem.Str) (l : List PySem.Str) : PySem.Txt.join sep l = PySem.Str.join sep l := eq_of_beq (join_plain_closes sep l)
theorem join_codes (f : Nat → Nat) (ks : List Nat) : PySem.Txt.join (PySem.Str.ofString "") (ks.map fun k => (⟨#[f k]⟩ : PySem.Str)) = ⟨(ks.map f).toArray⟩ := (tjoin_eq _ _).trans (sjoin_codes f ks)
theorem sum_ones (f : Nat → Nat) : ∀ ks : List Nat, ((ks.map fun k => (⟨#[f k]⟩ : PySem.Str)).map (·.length)).sum = ks.length
  | [] => rfl
  | k :: r => by
    rw [List.map_cons, List.map_cons, List.sum_cons, sum_ones f r, List.length_cons]
    show 1 + r.length = r.length + 1
    omega
end Mine
end PartComp
section PartComp2
open PySem PySem.W PyProof.Rows PySem.Calls
namespace Mine
section
variable {prog : Program} {w : World} {A : Around} {E : Value → Shared → Prop} {s : Shared} {h₀ : Heap} {L : Addr} {m : PySem.Str → Option Value} {env : Env}
/-- a comprehension over a text that takes none of its signs -/
def NoneSrc (prog : Program) (w : World) (A : Around) (h₀ : Heap) (L : Addr) (m : PySem.Str → Option Value) (env : Env) (c : PySem.Expr) (x : PySem.Str) (scope : Scope) (cl : List (PySem.Str × Addr)) (Q : Value → Shared → Prop) (xv : Value) (s₁ : Shared) : Prop :=
  ∃ (xt : PySem.Str) (t : Tok) (news : List (Addr × Obj)), xv = .str xt t ∧ A.handled = none ∧ Fr h₀ L s₁.heap m ∧ News h₀ L s₁.heap news ∧ xt.cps.size ≤ sizeLine ∧
    (∀ k t C s₃ m₃ (E' : Value → Shared → Prop), k ∈ xt.cps.toList → s₃.heap.Ns C m₃ → m₃ x = some (.str ⟨#[k]⟩ t) →
      wpAny (model prog w) A (isTrue c (compEnvC scope cl C env) (eval c (compEnvC scope cl C env))) (fun ok s₄ => ok = false ∧ Keeps s₃ s₄) E' s₃) ∧
    (∀ D n h tk, Fr h₀ L h m → News h₀ L h ((D, listOf #[] n) :: news) → LCg.Off1 D news → Q (.ref D) { s₁ with heap := h, toks := tk })
theorem off1_of {D : Addr} : ∀ {l : List (Addr × Obj)}, (∀ p ∈ l, p.1 ≠ D) → LCg.Off1 D l
  | [], _ => trivial
  | _ :: _, h => ⟨h _ List.mem_cons_self, off1_of fun p hp => h p (List.mem_cons_of_mem _ hp)⟩
theorem ListComp_none {elt iter c : PySem.Expr} {x : PySem.Str} {px : Pos} {scope : Scope} {cl : List (PySem.Str × Addr)} {pos : Pos} {Q : Value → Shared → Prop} (F₀ : Fr h₀ L s.heap m)
    (hclos : closureFor scope env = pure cl) (hcell : ∀ y ∈ scope.names, y.2 ≠ .cell) (hkind : scope.kind = .function)
    (hnames : ∀ y ∈ scope.names, y.2 = .local → scope.names.lookup y.1 = some .local) (hx : scope.names.lookup x = some .local)
    (h : wpAny (model prog w) A (eval iter env) (NoneSrc prog w A h₀ L m env c x scope cl Q) E s)
    (hs : ∀ x, foldedSetIterable iter env x = pure x := by intro _; rfl) :
    wpAny (model prog w) A (eval (.ListComp elt [⟨.Name x px, iter, [c], 0⟩] scope pos) env) Q E s := by
  let _ := F₀
  refine wpAny_ListComp_free (fun _ => false) (fun _ _ => True) hclos hcell hkind hnames hx (wpAny_mono h (fun xv s₁ h₁ => ?_) fun _ _ e => e) hs
  obtain ⟨xt, t, news, rfl, hh, F, N, hsz, turn, fin⟩ := h₁
  refine wpAny_pyIter_str fun o St W hst => ?_
  have up : ∀ b o', s₁.heap.get? b = some o' → (s₁.heap.push o).get? b = some o' := fun b o' e => Heap.get?_push_of_some _ e
  refine ⟨_, _, _, _, _, _, rfl, W A hh, hsz, hst, (fun b hb => ?_), ⟨fun C i v s₃ m₃ E' _ hP hn hm _ _ => ?_, fun C i v s₃ m₃ E' _ _ hp => absurd hp Bool.false_ne_true⟩, ?_⟩
  · rw [List.mem_singleton.mp hb]
    show s₁.heap.objs.size < (s₁.heap.push o).objs.size
    rw [Heap.size_push]; exact Nat.lt_succ_self _
  · obtain ⟨k, u, hk, rfl⟩ := hP
    exact wpAny_tests_one (turn k u C s₃ m₃ E' (List.mem_of_getElem? (by rw [Array.getElem?_toList]; exact hk)) hn hm)
  · intro D h' tk ys vs hD hl hpl hlen hP hF hk
    have hys : ys = #[] := by
      have e : vs.filter (fun _ => false) = [] := List.filter_eq_nil_iff.mpr fun _ _ => Bool.false_ne_true
      rw [e] at hF
      cases hy : ys.toList with
      | nil => exact Array.toList_eq_nil_iff.mp hy
      | cons a r => rw [hy] at hF; cases hF
    subst hys
    obtain ⟨n, hn⟩ := hpl
    have kp : ∀ b o', s₁.heap.get? b = some o' → h'.get? b = some o' := fun b o' e => hk b o' (fun hb => by
      have := Heap.lt_size e
      rw [List.mem_singleton.mp hb] at this
      exact Nat.lt_irrefl _ this) (up b o' e)
    have hDs : ∀ b o', s₁.heap.get? b = some o' → b ≠ D := fun b o' e q => by
      have := up b o' e
      rw [q, hD] at this; cases this
    have hDL : D ≠ L := by
      obtain ⟨oL, es, ep, hL, r⟩ := F.ns
      exact fun q => hDs L oL hL q.symm
    have hD₀ : h₀.get? D = none := by
      cases e : h₀.get? D with
      | none => rfl
      | some o' => exact absurd rfl (hDs D o' (F.keep D o' e))
    refine fin D n h' tk (F.keeps kp) (fun p hp => ?_) (off1_of fun p hp => hDs p.1 p.2 (N p hp).1)
    rcases List.mem_cons.mp hp with rfl | hp
    · exact ⟨hn, hDL, hD₀⟩
    · exact ⟨kp _ _ (N p hp).1, (N p hp).2⟩
/-- a comprehension over a list that takes every item as it is -/
def AllSrc (prog : Program) (w : World) (A : Around) (h₀ : Heap) (L : Addr) (m : PySem.Str → Option Value) (env : Env) (elt c : PySem.Expr) (x : PySem.Str) (scope : Scope) (cl : List (PySem.Str × Addr)) (Q : Value → Shared → Prop) (xv : Value) (s₁ : Shared) : Prop :=
  ∃ (ax : Addr) (its : List Value) (n : Nat) (news : List (Addr × Obj)), xv = .ref ax ∧ A.handled = none ∧ Fr h₀ L s₁.heap m ∧ News h₀ L s₁.heap news ∧ (ax, listOf its.toArray n) ∈ news ∧ its.length ≤ sizeLine ∧
    (∀ v C s₃ m₃ (E' : Value → Shared → Prop), v ∈ its → s₃.heap.Ns C m₃ → m₃ x = some v → Fr h₀ L s₃.heap m → News h₀ L s₃.heap news →
      wpAny (model prog w) A (isTrue c (compEnvC scope cl C env) (eval c (compEnvC scope cl C env))) (fun ok s₄ => ok = true ∧ Keeps s₃ s₄) E' s₃) ∧
    (∀ v C s₃ m₃ (E' : Value → Shared → Prop), v ∈ its → s₃.heap.Ns C m₃ → m₃ x = some v → Fr h₀ L s₃.heap m → News h₀ L s₃.heap news →
      wpAny (model prog w) A (eval elt (compEnvC scope cl C env)) (fun y s₄ => y = v ∧ Keeps s₃ s₄) E' s₃) ∧
    (∀ D n h tk, Fr h₀ L h m → News h₀ L h ((D, listOf its.toArray n) :: news) → LCg.Off1 D news → Q (.ref D) { s₁ with heap := h, toks := tk })
theorem paired_eq {a b : List Value} (h : Paired (fun v y => y = v) a b) : b = a := by
  induction h with
  | nil => rfl
  | cons e _ ih => rw [e, ih]
theorem ListComp_all {elt iter c : PySem.Expr} {x : PySem.Str} {px : Pos} {scope : Scope} {cl : List (PySem.Str × Addr)} {pos : Pos} {Q : Value → Shared → Prop} (F₀ : Fr h₀ L s.heap m)
    (hclos : closureFor scope env = pure cl) (hcell : ∀ y ∈ scope.names, y.2 ≠ .cell) (hkind : scope.kind = .function)
    (hnames : ∀ y ∈ scope.names, y.2 = .local → scope.names.lookup y.1 = some .local) (hx : scope.names.lookup x = some .local)
    (h : wpAny (model prog w) A (eval iter env) (AllSrc prog w A h₀ L m env elt c x scope cl Q) E s)
    (hs : ∀ x, foldedSetIterable iter env x = pure x := by intro _; rfl) :
    wpAny (model prog w) A (eval (.ListComp elt [⟨.Name x px, iter, [c], 0⟩] scope pos) env) Q E s := by
  let _ := F₀
  refine wpAny_ListComp_free (fun _ => true) (fun v y => y = v) hclos hcell hkind hnames hx (wpAny_mono h (fun xv s₁ h₁ => ?_) fun _ _ e => e) hs
  obtain ⟨ax, its, n, news, rfl, hh, F, N, hm, hsz, turn, elt', fin⟩ := h₁
  have hl : s₁.heap.IsList ax its.toArray := News.isList N hm
  have hlt : ax < s₁.heap.objs.size := by obtain ⟨_, e, _⟩ := hl; exact Heap.lt_size e
  refine wpAny_pyIter_list hl ?_
  have up : ∀ b o', s₁.heap.get? b = some o' → (s₁.heap.push { cls := .type "list_iterator", data := .fields #[.ref ax, .int 0 0] }).get? b = some o' := fun b o' e => Heap.get?_push_of_some _ e
  have keep : ∀ s₃ : Shared, (∀ b o', b ∉ [s₁.heap.objs.size] → (s₁.heap.push { cls := .type "list_iterator", data := .fields #[.ref ax, .int 0 0] }).get? b = some o' → s₃.heap.get? b = some o') → ∀ b o', s₁.heap.get? b = some o' → s₃.heap.get? b = some o' := fun s₃ k b o' e => k b o' (fun hb => by
    have := Heap.lt_size e
    rw [List.mem_singleton.mp hb] at this
    exact Nat.lt_irrefl _ this) (up b o' e)
  refine ⟨_, _, _, _, _, _, rfl, Walks.list hh s₁.heap.objs.size ax (Nat.ne_of_lt hlt) its.toArray, by rw [List.size_toArray]; exact hsz, ⟨⟨_, Heap.get?_push_size _ rfl, rfl, rfl⟩, hl.push _⟩, (fun b hb => ?_),
    ⟨fun C i v s₃ m₃ E' _ hP hn hm' hk _ => wpAny_tests_one (turn v C s₃ m₃ E' (List.mem_of_getElem? (by simpa using hP)) hn hm' (F.keeps (keep s₃ hk)) (N.grown (keep s₃ hk))),
     fun C i v s₃ m₃ E' _ hP _ hn hm' hk _ => elt' v C s₃ m₃ E' (List.mem_of_getElem? (by simpa using hP)) hn hm' (F.keeps (keep s₃ hk)) (N.grown (keep s₃ hk))⟩, ?_⟩
  · show b < (s₁.heap.push _).objs.size
    rw [Heap.size_push]
    rcases List.mem_cons.mp hb with rfl | hb
    · exact Nat.lt_succ_self _
    · rw [List.mem_singleton.mp hb]; exact Nat.lt_succ_of_lt hlt
  · intro D h' tk ys vs hD hlD hpl hlen hP hF hk
    have hvs : vs = its := by
      apply List.ext_getElem?
      intro i
      cases e : vs[i]? with
      | some v => have := hP i v e; simpa using this.symm
      | none =>
        have hi : vs.length ≤ i := List.getElem?_eq_none_iff.mp e
        exact (List.getElem?_eq_none_iff.mpr (by rw [List.size_toArray] at hlen; omega)).symm
    have hys : ys = its.toArray := by
      rw [List.filter_eq_self.mpr (fun _ _ => rfl), hvs] at hF
      have := paired_eq hF
      rw [← this]
    subst hys
    obtain ⟨n', hn⟩ := hpl
    have kp := keep { s₁ with heap := h' } hk
    have hDs : ∀ b o', s₁.heap.get? b = some o' → b ≠ D := fun b o' e q => by
      have := up b o' e
      rw [q, hD] at this; cases this
    have hDL : D ≠ L := by
      obtain ⟨oL, es, ep, hL, r⟩ := F.ns
      exact fun q => hDs L oL hL q.symm
    have hD₀ : h₀.get? D = none := by
      cases e : h₀.get? D with
      | none => rfl
      | some o' => exact absurd rfl (hDs D o' (F.keep D o' e))
    refine fin D n' h' tk (F.keeps kp) (fun p hp => ?_) (off1_of fun p hp => hDs p.1 p.2 (N p hp).1)
    rcases List.mem_cons.mp hp with rfl | hp
    · exact ⟨hn, hDL, hD₀⟩
    · exact ⟨kp _ _ (N p hp).1, (N p hp).2⟩
end
end Mine
end PartComp2
section PartComp3
open PySem PySem.W PyProof.Rows PySem.Calls
namespace Mine
section
variable {α : Type} {prog : Program} {w : World} {A : Around} {E : Value → Shared → Prop} {s : Shared} {h₀ : Heap} {L : Addr} {m : PySem.Str → Option Value} {env : Env}
/-- what iterates as these, while the object oa stands at a -/
def IterN (prog : Program) (w : World) (a : Addr) (oa : Obj) (mk : α → Tok → Value) (ks : List α) (xv : Value) : Prop :=
  ∀ (A : Around) (s : Shared) (Q : Value → Shared → Prop) (E : Value → Shared → Prop), A.handled = none → s.heap.get? a = some oa →
    (∀ (o : Obj) (fp : List Addr) (St : Nat → Heap → Prop), Walks prog w A s.heap.objs.size fp [s.heap.objs.size] ks.length (fun i v => ∃ k u, ks[i]? = some k ∧ v = mk k u) St → (∀ b ∈ fp, b ≤ s.heap.objs.size) → St 0 (s.heap.push o) →
      (∀ i h, St i h → ∃ o', h.get? s.heap.objs.size = some o') → (∀ i h h' o', St i h → h.get? s.heap.objs.size = some o' → h'.get? s.heap.objs.size = some o' → h'.get? a = some oa → St i h') →
      Q (.ref s.heap.objs.size) { s with heap := s.heap.push o }) → wpAny (model prog w) A (pyIter xv) Q E s
theorem iterN_tuple {mk : α → Tok → Value} {ks : List α} {vs : List Value} {a : Addr} (hI : Its mk ks vs) : IterN prog w a { cls := .type "tuple", data := .seq vs.toArray } mk ks (.ref a) := by
  intro A s Q E hh hk hQ
  have tupOf : ∀ h : Heap, h.get? a = some { cls := .type "tuple", data := .seq vs.toArray } → h.IsTuple a vs.toArray := fun h e => ⟨_, e, rfl, _, rfl⟩
  have ht' : s.heap.IsTuple a vs.toArray := tupOf _ hk
  have hlt : a < s.heap.objs.size := Heap.lt_size hk
  have W := Walks.tuple (prog := prog) (w := w) hh s.heap.objs.size a (Nat.ne_of_lt hlt) vs.toArray
  have hl : ks.length = vs.toArray.size := by rw [List.size_toArray, hI.length]
  have W' : Walks prog w A s.heap.objs.size [s.heap.objs.size, a] [s.heap.objs.size] ks.length (fun i v => ∃ k u, ks[i]? = some k ∧ v = mk k u) (fun i h => h.IsTupleIter s.heap.objs.size a i ∧ h.IsTuple a vs.toArray) := by
    rw [hl]
    exact { sub := W.sub, frame := W.frame, done := W.done, self := W.self, item := fun i s Q E hi st hQ => W.item i s Q E hi st fun v h' tk hP => hQ v h' tk (hI.at i v (by simpa using hP)) }
  refine wpAny_pyIter_tuple ht' (hQ _ _ _ W' (fun b hb => ?_) ⟨⟨_, Heap.get?_push_size _ rfl, rfl, rfl⟩, ht'.at fun o e => Heap.get?_push_of_some _ e⟩ (fun i h st => let ⟨o, ho, _⟩ := st.1; ⟨o, ho⟩) fun i h h' o' st e e' k' => ⟨?_, tupOf _ k'⟩)
  · rcases List.mem_cons.mp hb with rfl | hb
    · exact Nat.le_refl _
    · rw [List.mem_singleton.mp hb]; exact Nat.le_of_lt hlt
  · obtain ⟨o, ho, r⟩ := st.1
    rw [e] at ho
    cases ho
    exact ⟨o', e', r⟩
theorem its_ints : ∀ {vs : List Value} {ns : List Int}, IntsAre vs ns → Its (fun (k : Int) u => Value.int k u) ns vs
  | _, _, .nil => .nil
  | _, _, .cons _ _ r => .cons (its_ints r)
theorem iterN_list {mk : α → Tok → Value} {ks : List α} {vs : List Value} {a : Addr} {n : Nat} (hI : Its mk ks vs) : IterN prog w a (listOf vs.toArray n) mk ks (.ref a) := by
  intro A s Q E hh hk hQ
  have lstOf : ∀ h : Heap, h.get? a = some (listOf vs.toArray n) → h.IsList a vs.toArray := fun h e => ⟨_, e, rfl, _, rfl⟩
  have hl' : s.heap.IsList a vs.toArray := lstOf _ hk
  have hlt : a < s.heap.objs.size := Heap.lt_size hk
  have W := Walks.list (prog := prog) (w := w) hh s.heap.objs.size a (Nat.ne_of_lt hlt) vs.toArray
  have hl : ks.length = vs.toArray.size := by rw [List.size_toArray, hI.length]
  have W' : Walks prog w A s.heap.objs.size [s.heap.objs.size, a] [s.heap.objs.size] ks.length (fun i v => ∃ k u, ks[i]? = some k ∧ v = mk k u) (fun i h => h.IsListIter s.heap.objs.size a i ∧ h.IsList a vs.toArray) := by
    rw [hl]
    exact { sub := W.sub, frame := W.frame, done := W.done, self := W.self, item := fun i s Q E hi st hQ => W.item i s Q E hi st fun v h' tk hP => hQ v h' tk (hI.at i v (by simpa using hP)) }
  refine wpAny_pyIter_list hl' (hQ _ _ _ W' (fun b hb => ?_) ⟨⟨_, Heap.get?_push_size _ rfl, rfl, rfl⟩, hl'.push _⟩ (fun i h st => let ⟨o, ho, _⟩ := st.1; ⟨o, ho⟩) fun i h h' o' st e e' k' => ⟨?_, lstOf _ k'⟩)
  · rcases List.mem_cons.mp hb with rfl | hb
    · exact Nat.le_refl _
    · rw [List.mem_singleton.mp hb]; exact Nat.le_of_lt hlt
  · obtain ⟨o, ho, r⟩ := st.1
    rw [e] at ho
    cases ho
    exact ⟨o', e', r⟩
def CodeTurnN (prog : Program) (w : World) (A : Around) (h₀ : Heap) (L : Addr) (m : PySem.Str → Option Value) (env : Env) (elt : PySem.Expr) (x : PySem.Str) (scope : Scope) (cl : List (PySem.Str × Addr)) (mk g : α → Tok → Value) (ks : List α) (S : List (Addr × Obj) → Prop) (news : List (Addr × Obj)) (s : Shared) : Prop :=
  ∀ k t I oI C oC D m₂ ys h tk (E' : Value → Shared → Prop), k ∈ ks → LCg.NsObj oC m₂ → m₂ x = some (mk k t) → Fr h₀ L h m → News h₀ L h ((I, oI) :: (C, oC) :: (D, LCg.lst ys) :: news) → LCg.Off3 I C D news → ((@Ne Nat I C) ∧ (@Ne Nat I D) ∧ (@Ne Nat C D)) →
    wpAny (model prog w) A (eval elt (compEnvC scope cl C env)) (LCg.CompEnd h₀ L m { s with heap := h, toks := tk } I oI C oC D (LCg.lst ys) S (fun y news' => news' = news ∧ ∃ u, y = g k u)) E' { s with heap := h, toks := tk }
def CodeSrcN (prog : Program) (w : World) (A : Around) (h₀ : Heap) (L : Addr) (m : PySem.Str → Option Value) (env : Env) (elt : PySem.Expr) (x : PySem.Str) (scope : Scope) (cl : List (PySem.Str × Addr)) (g : α → Tok → Value) (Fin : List α → List (Addr × Obj) → Shared → Prop) (xv : Value) (s₁ : Shared) : Prop :=
  ∃ (mk : α → Tok → Value) (ks : List α) (a : Addr) (oa : Obj) (news : List (Addr × Obj)), IterN prog w a oa mk ks xv ∧ A.handled = none ∧ Fr h₀ L s₁.heap m ∧ News h₀ L s₁.heap news ∧ (a, oa) ∈ news ∧ ks.length ≤ sizeLine ∧
    (∀ g', CodeTurnN prog w A h₀ L m env elt x scope cl mk g ks (fun nw => (a, oa) ∈ nw) news { s₁ with heap := g' }) ∧ Fin ks news s₁
theorem restN_of {elt : PySem.Expr} {x : PySem.Str} {scope : Scope} {cl : List (PySem.Str × Addr)} {mk g : α → Tok → Value} {ks : List α} {S : List (Addr × Obj) → Prop} {news : List (Addr × Obj)} {s : Shared} (turn : CodeTurnN prog w A h₀ L m env elt x scope cl mk g ks S news s) :
    ∀ (j i : Nat) (ys : List Value), i + j = ks.length → Made g (ks.take i) ys →
      LCg.CompRest prog w A h₀ L m env elt x scope cl s S (fun i v => ∃ k u, ks[i]? = some k ∧ v = mk k u) (fun ys nw => nw = news ∧ Made g ks ys) j i ys news
  | 0, i, ys, hi, hm => by
    have e : i = ks.length := by omega
    subst e
    rw [List.take_length] at hm
    exact LCg.CompRest.zero ⟨rfl, hm⟩
  | j + 1, i, ys, hi, hm => by
    refine LCg.CompRest.succ ?_
    rintro v I oI C oC D m₂ h tk E' ⟨k, u, hk, rfl⟩ hC hx F N off ne
    refine wpAny_mono (turn k u I oI C oC D m₂ ys h tk E' (List.mem_of_getElem? hk) hC hx F N off ne) (fun y s₂ hq => ?_) fun _ _ e => e
    obtain ⟨h', tk', nw, e, F', N', off', hS, hn, u', hy⟩ := hq
    subst hn
    subst hy
    refine ⟨h', tk', nw, e, F', N', off', hS, ?_⟩
    refine restN_of turn j (i + 1) _ (by omega) ?_
    rw [List.take_add_one, hk]
    exact hm.snoc
theorem ListComp_codesN (g : α → Tok → Value) {elt iter : PySem.Expr} {x : PySem.Str} {px : Pos} {scope : Scope} {cl : List (PySem.Str × Addr)} {pos : Pos} {Q : Value → Shared → Prop} (F₀ : Fr h₀ L s.heap m)
    (hclos : closureFor scope env = pure cl) (hcell : ∀ y ∈ scope.names, y.2 ≠ .cell) (hkind : scope.kind = .function)
    (hnames : ∀ y ∈ scope.names, y.2 = .local → scope.names.lookup y.1 = some .local) (hx : scope.names.lookup x = some .local)
    (h : wpAny (model prog w) A (eval iter env) (CodeSrcN prog w A h₀ L m env elt x scope cl g (CodeFin h₀ L m g Q)) E s)
    (hs : ∀ x, foldedSetIterable iter env x = pure x := by intro _; rfl) :
    wpAny (model prog w) A (eval (.ListComp elt [⟨.Name x px, iter, [], 0⟩] scope pos) env) Q E s := by
  let _ := F₀
  rw [eval_ListComp]
  refine wpAny_comprehension_free (use := none) rfl hs hclos hkind hnames (wpAny_mono h (fun xv s₁ h₁ => ?_) fun _ _ e => e)
  obtain ⟨mk, ks, a, oa, news, hit, hh, F, N, ha, hsz, turn, fin⟩ := h₁
  refine hit A s₁ _ _ hh (N _ ha).1 fun o fp St W hfp hst hIo hSt => ?_
  have up : ∀ b o', s₁.heap.get? b = some o' → (s₁.heap.push o).get? b = some o' := fun b o' e => Heap.get?_push_of_some _ e
  refine LCg.block_U (S := fun nw => (a, oa) ∈ nw) (Fin := fun ys nw => nw = news ∧ Made g ks ys) W hsz hIo (fun i h h' o' nw st e e' k n' s' => hSt i h h' o' st e e' (n' _ s').1) hcell hkind hx hst (fun b hb => ?_)
    (F.keeps up) (N.grown up) (Nat.ne_of_lt F.ns.lt) (next_is_new F) (fun p hp => Nat.ne_of_lt (Heap.lt_size (N p hp).1)) ha (restN_of (turn _) ks.length 0 [] (by omega) (by rw [List.take_zero]; exact .nil)) ?_
  · show b < (s₁.heap.push o).objs.size
    rw [Heap.size_push]; exact Nat.lt_succ_of_le (hfp b hb)
  · intro D C h tk m' ys news' F' N' o1 hn hC₀ hD₀ hCL hDL hCD offC hfin
    obtain ⟨rfl, hm⟩ := hfin
    refine ⟨m', hn, fun h'' hs'' => fin ys D h'' tk hm (F'.change hs'' hCL hC₀) (fun p hp => ?_) o1⟩
    refine ⟨hs''.extBut _ _ ?_ (N' p hp).1, (N' p hp).2⟩
    rcases List.mem_cons.mp hp with rfl | hp
    · exact Ne.symm hCD
    · exact offC p hp
theorem Assign_codesN (g : α → Tok → Value) {elt iter : PySem.Expr} {x y : PySem.Str} {px py : Pos} {scope : Scope} {cl : List (PySem.Str × Addr)} {pos spos : Pos} {Q : Flow → Shared → Prop} (F₀ : Fr h₀ L s.heap m) (hLe : env.locals = L)
    (hsw : swapsWith (.ListComp elt [⟨.Name x px, iter, [], 0⟩] scope pos) (some (.Name y py)) spos.line env = pure true)
    (hclos : closureFor scope env = pure cl) (hcell : ∀ z ∈ scope.names, z.2 ≠ .cell) (hkind : scope.kind = .function)
    (hnames : ∀ z ∈ scope.names, z.2 = .local → scope.names.lookup z.1 = some .local) (hx : scope.names.lookup x = some .local)
    (hy : env.kindOf y = some .local) (hp : (env.scope.kind == .class || (env.scope.kind == .module && env.locals != env.globals)) = false)
    (h : wpAny (model prog w) A (eval iter env) (CodeSrcN prog w A h₀ L m env elt x scope cl g (CodeFinA h₀ L m y g Q)) E s)
    (hs : ∀ x, foldedSetIterable iter env x = pure x := by intro _; rfl) :
    wpAny (model prog w) A (exec (.Assign [.Name y py] (.ListComp elt [⟨.Name x px, iter, [], 0⟩] scope pos) spos) env) Q E s := by
  let _ := F₀
  subst hLe
  rw [exec_Assign_Name_used _ _ _ _ hsw]
  refine wpAny_bind (wpAny_standAt (wpAny_bind ?_))
  show wpAny _ A (do let _ ← comprehension (.ListComp elt [⟨.Name x px, iter, [], 0⟩] scope pos) scope env _ (newList []) false (eval iter env) (some (assign (.Name y py) env))) _ _ s
  refine wpAny_bind (wpAny_mono (wpAny_comprehension_free (use := some (assign (.Name y py) env)) (Q := fun _ s' => Q .next s') rfl hs hclos hkind hnames
    (wpAny_mono h (fun xv s₁ h₁ => ?_) fun _ _ e => e)) (fun _ s' hq => wpAny_pure (wpAny_pure hq)) fun _ _ e => e)
  obtain ⟨mk, ks, a, oa, news, hit, hh, F, N, ha, hsz, turn, fin⟩ := h₁
  refine hit A s₁ _ _ hh (N _ ha).1 fun o fp St W hfp hst hIo hSt => ?_
  have up : ∀ b o', s₁.heap.get? b = some o' → (s₁.heap.push o).get? b = some o' := fun b o' e => Heap.get?_push_of_some _ e
  refine LCg.block_U (S := fun nw => (a, oa) ∈ nw) (Fin := fun ys nw => nw = news ∧ Made g ks ys) W hsz hIo (fun i h h' o' nw st e e' k n' s' => hSt i h h' o' st e e' (n' _ s').1) hcell hkind hx hst (fun b hb => ?_)
    (F.keeps up) (N.grown up) (Nat.ne_of_lt F.ns.lt) (next_is_new F) (fun p hp => Nat.ne_of_lt (Heap.lt_size (N p hp).1)) ha (restN_of (turn _) ks.length 0 [] (by omega) (by rw [List.take_zero]; exact .nil)) ?_
  · show b < (s₁.heap.push o).objs.size
    rw [Heap.size_push]; exact Nat.lt_succ_of_le (hfp b hb)
  · intro D C h tk m' ys news' F' N' o1 hn hC₀ hD₀ hCL hDL hCD offC hfin
    obtain ⟨rfl, hm⟩ := hfin
    show wpAny _ A (assign (.Name y py) env (.ref D)) _ _ _
    have hL₀ : h₀.get? env.locals = none := Heap.get?_none_of_le F'.above
    refine wpAny_assign_Name (wpAny_storeName_local hy F'.ns (fun h₂ hn₂ hs₂ => ?_) hp)
    have F₂ : Fr h₀ env.locals h₂ (fun z => if z = y then some (.ref D) else m z) := ⟨hn₂, fun b o e => hs₂.extBut b o (fun q => by rw [q, hL₀] at e; cases e) (F'.keep b o e), F'.above⟩
    refine ⟨m', hn.sameBut hs₂ hCL, fun h'' hs'' => fin ys D h'' _ hm (F₂.change hs'' hCL hC₀) (fun p hp => ?_) o1⟩
    have z : h₂.get? p.1 = some p.2 := hs₂.extBut _ _ (N' p hp).2.1 (N' p hp).1
    refine ⟨hs''.extBut _ _ ?_ z, (N' p hp).2⟩
    rcases List.mem_cons.mp hp with rfl | hp
    · exact Ne.symm hCD
    · exact offC p hp
end
end Mine
end PartComp3
section PartComp4
open PySem PySem.W PyProof.Rows PySem.Calls
namespace Mine
section
variable {prog : Program} {w : World} {A : Around} {E : Value → Shared → Prop} {s : Shared} {h₀ : Heap} {L : Addr} {m : PySem.Str → Option Value} {env : Env}
/-- a turn over pairs -/
def PairTurn (prog : Program) (w : World) (A : Around) (h₀ : Heap) (L : Addr) (m : PySem.Str → Option Value) (env : Env) (elt : PySem.Expr) (x y : PySem.Str) (scope : Scope) (cl : List (PySem.Str × Addr)) (g : Int × Int → Tok → Value) (ps : List (Int × Int)) (news : List (Addr × Obj)) (s : Shared) : Prop :=
  ∀ (p : Int × Int) t u I oI C oC D m₂ ys h tk (E' : Value → Shared → Prop), p ∈ ps → LCg.NsObj oC m₂ → m₂ x = some (.int p.1 t) → m₂ y = some (.int p.2 u) → Fr h₀ L h m → News h₀ L h ((I, oI) :: (C, oC) :: (D, LCg.lst ys) :: news) → LCg.Off3 I C D news → ((@Ne Nat I C) ∧ (@Ne Nat I D) ∧ (@Ne Nat C D)) →
    wpAny (model prog w) A (eval elt (compEnvC scope cl C env)) (LCg.CompEnd h₀ L m { s with heap := h, toks := tk } I oI C oC D (LCg.lst ys) (fun _ => True) (fun y news' => news' = news ∧ ∃ u, y = g p u)) E' { s with heap := h, toks := tk }
def PairSrc (prog : Program) (w : World) (A : Around) (h₀ : Heap) (L : Addr) (m : PySem.Str → Option Value) (env : Env) (elt : PySem.Expr) (x y : PySem.Str) (scope : Scope) (cl : List (PySem.Str × Addr)) (g : Int × Int → Tok → Value) (Q : Value → Shared → Prop) (xv : Value) (s₁ : Shared) : Prop :=
  ∃ (ax : Addr) (vs : List Value) (ps : List (Int × Int)) (news : List (Addr × Obj)), xv = .ref ax ∧ A.handled = none ∧ Fr h₀ L s₁.heap m ∧ News h₀ L s₁.heap news ∧ IsTup h₀ ax vs.toArray ∧ vs.length = ps.length ∧
    (∀ (i : Nat) (v : Value), vs[i]? = some v → ∃ p T t u, ps[i]? = some p ∧ v = .ref T ∧ IsTup h₀ T #[.int p.1 t, .int p.2 u]) ∧ ps.length ≤ 1000 ∧
    (∀ g', PairTurn prog w A h₀ L m env elt x y scope cl g ps news { s₁ with heap := g' }) ∧ CodeFin h₀ L m g Q ps news s₁
theorem ListComp_pairs (g : Int × Int → Tok → Value) {elt iter : PySem.Expr} {x y : PySem.Str} {px py tp : Pos} {kk : Nat} {scope : Scope} {cl : List (PySem.Str × Addr)} {pos : Pos} {Q : Value → Shared → Prop} (F₀ : Fr h₀ L s.heap m)
    (hclos : closureFor scope env = pure cl) (hcell : ∀ y ∈ scope.names, y.2 ≠ .cell) (hkind : scope.kind = .function)
    (hnames : ∀ y ∈ scope.names, y.2 = .local → scope.names.lookup y.1 = some .local) (hx : scope.names.lookup x = some .local) (hy : scope.names.lookup y = some .local) (hxy : ¬ x = y)
    (h : wpAny (model prog w) A (eval iter env) (PairSrc prog w A h₀ L m env elt x y scope cl g Q) E s)
    (hs : ∀ x, foldedSetIterable iter env x = pure x := by intro _; rfl) :
    wpAny (model prog w) A (eval (.ListComp elt [⟨.Tuple [.Name x px, .Name y py] kk tp, iter, [], 0⟩] scope pos) env) Q E s := by
  let _ := F₀
  rw [eval_ListComp]
  refine wpAny_comprehension_free (use := none) rfl hs hclos hkind hnames (wpAny_mono h (fun xv s₁ h₁ => ?_) fun _ _ e => e)
  obtain ⟨ax, vs, ps, news, rfl, hh, F, N, hsrc, hlen, hps, hsz, turn, fin⟩ := h₁
  have tupAt : ∀ (a : Addr) (l : Array Value) (h' : Heap), IsTup h₀ a l → Fr h₀ L h' m → h'.IsTuple a l := fun a l h' k F' => IsTup.keeps k F'.keep
  have hlt : ax < s₁.heap.objs.size := by obtain ⟨_, e, _⟩ := tupAt _ _ _ hsrc F; exact Heap.lt_size e
  refine wpAny_pyIter_tuple (tupAt _ _ _ hsrc F) ?_
  generalize hI : s₁.heap.objs.size = I at hlt ⊢
  generalize hO : ({ cls := .type "tuple_iterator", data := .fields #[.ref ax, .int 0 0] } : Obj) = oI0
  have up1 : ∀ b o', s₁.heap.get? b = some o' → (s₁.heap.push oI0).get? b = some o' := fun b o' e => Heap.get?_push_of_some _ e
  have sz1 : (s₁.heap.push oI0).objs.size = I + 1 := by rw [Heap.size_push, hI]
  have it1 : (s₁.heap.push oI0).IsTupleIter I ax 0 := ⟨oI0, by rw [← hI]; exact Heap.get?_push_size _ (by rw [← hO]; rfl), by rw [← hO], by rw [← hO]; rfl⟩
  refine wpAny_newObj_type (wpAny_newFunctionEnv hcell (by intro y hy; simp at hy) (fun h2 hns2 hsb2 => ?_) hkind)
  dsimp only at hns2 hsb2 ⊢
  have sz2 : ((s₁.heap.push oI0).push ({ cls := .type "list", data := .seq #[] } : Obj)).objs.size = I + 1 + 1 := by rw [Heap.size_push, sz1]
  rw [sz2] at hns2 hsb2 ⊢
  rw [sz1]
  generalize hH : (s₁.heap.push oI0).push ({ cls := .type "list", data := .seq #[] } : Obj) = H2 at hns2 hsb2 ⊢
  have hDC : @Ne Nat (I + 1) (I + 1 + 1) := Nat.ne_of_lt (Nat.lt_succ_self _)
  have hIC : @Ne Nat I (I + 1 + 1) := by omega
  have hID : @Ne Nat I (I + 1) := by omega
  have below : ∀ b o, s₁.heap.get? b = some o → @LT.lt Nat _ b I := fun b o e => hI ▸ Heap.lt_size e
  have far : ∀ b : Nat, b < I → (@Ne Nat b I) ∧ (@Ne Nat b (I + 1 + 1)) ∧ (@Ne Nat b (I + 1)) := fun b h => ⟨by omega, by omega, by omega⟩
  have old : ∀ b o, s₁.heap.get? b = some o → h2.get? b = some o := fun b o e => hsb2.extBut b o (far b (below b o e)).2.1 (Heap.get?_push_of_some _ (by rw [← hH]; exact Heap.get?_push_of_some _ (up1 b o e)))
  have hD2 : h2.get? (I + 1) = some (LCg.lst []) := hsb2.extBut _ _ hDC (Heap.get?_push_of_some _ (by rw [← hH, ← sz1]; exact Heap.get?_push_size _ rfl))
  have it2 : h2.IsTupleIter I ax 0 := it1.at fun o e => hsb2.extBut _ o hIC (Heap.get?_push_of_some _ (by rw [← hH]; exact Heap.get?_push_of_some _ e))
  have none₀ : ∀ b : Nat, I ≤ b → h₀.get? b = none := fun b hb => by
    cases e : h₀.get? b with
    | none => rfl
    | some o' => exact absurd (below b o' (F.keep b o' e)) (Nat.not_lt.mpr hb)
  have hL : @LT.lt Nat _ L I := by rw [← hI]; exact F.ns.lt
  have hLL : (@Ne Nat L I) ∧ (@Ne Nat (I + 1) L) ∧ (@Ne Nat (I + 1 + 1) L) := ⟨by omega, by omega, by omega⟩
  have nI : h₀.get? I = none := none₀ I (Nat.le_refl _)
  have nD : h₀.get? (I + 1) = none := none₀ _ (by omega)
  have nC : h₀.get? (I + 1 + 1) = none := none₀ _ (by omega)
  have offN : ∀ p ∈ news, (@Ne Nat p.1 I) ∧ (@Ne Nat p.1 (I + 1 + 1)) ∧ (@Ne Nat p.1 (I + 1)) := fun p hp => far _ (below _ _ (N p hp).1)
  have W := Walks.tuple (prog := prog) (w := w) hh I ax (Nat.ne_of_lt hlt) vs.toArray
  have stOf : ∀ (i : Nat) (h' : Heap), h'.IsTupleIter I ax i → Fr h₀ L h' m → (h'.IsTupleIter I ax i ∧ h'.IsTuple ax vs.toArray) := fun i h' a b => ⟨a, tupAt _ _ _ hsrc b⟩
  have loop : ∀ (R : Result → Shared → Prop) (s₃ : Shared), s₃ = { s₁ with heap := h2, toks := s₁.toks + ([] : List (PySem.Str × Value)).length } →
      (∀ h tk ys m', Made g ps ys → Fr h₀ L h m → News h₀ L h ((I + 1, LCg.lst ys) :: news) → h.Ns (I + 1 + 1) m' → R (.ok .next) { s₁ with heap := h, toks := tk }) →
      codeAny (model prog w) A (.compLoop (.ListComp elt [⟨.Tuple [.Name x px, .Name y py] kk tp, iter, [], 0⟩] scope pos) 0 (.ref I) (.ref (I + 1)) (compEnvC scope cl (I + 1 + 1) env)) R s₃ := by
    rintro R s₃ rfl hR
    refine kcp_loop
      (fun k s' => ∃ h' tk i ys m', s' = { s₁ with heap := h', toks := tk } ∧ i ≤ ps.length ∧ k = ps.length + 1 - i ∧ ys.length = i ∧ Made g (ps.take i) ys ∧ h'.IsTupleIter I ax i ∧ Fr h₀ L h' m ∧ h'.Ns (I + 1 + 1) m' ∧ News h₀ L h' ((I + 1, LCg.lst ys) :: news)) ?_ (ps.length + 1)
      ⟨h2, _, 0, [], _, rfl, Nat.zero_le _, rfl, rfl, by rw [List.take_zero]; exact .nil, it2, F.keeps old, hns2, fun p hp => ?_⟩
    · rintro k s' ⟨h', tk, i, ys, m', rfl, hi, rfl, hyl, hm, hit, F', hn', N'⟩
      by_cases hlt' : i < ps.length
      · refine W.item i _ _ _ (by rw [List.size_toArray]; omega) (stOf i h' hit F') fun v h3 tk3 hP hst3 hk3 => ?_
        obtain ⟨p, T, t, u, hp, rfl, hT⟩ := hps i v (by simpa using hP)
        have k3 : ∀ b o, b ≠ I → h'.get? b = some o → h3.get? b = some o := fun b o hb e => hk3 b o (by simpa using hb) e
        have F3 : Fr h₀ L h3 m := ⟨F'.ns.at' fun o e => k3 _ o hLL.1 e, fun b o e => k3 b o (fun q => by rw [q, nI] at e; cases e) (F'.keep b o e), F'.above⟩
        have N3 : News h₀ L h3 ((I + 1, LCg.lst ys) :: news) := fun p hp => ⟨k3 _ _ (by
          rcases List.mem_cons.mp hp with rfl | hp
          · exact Ne.symm hID
          · exact (offN p hp).1) (N' p hp).1, (N' p hp).2⟩
        refine letGo_tupleiter hst3.1 ?_
        refine kcp_assign (env := compEnvC scope cl (I + 1 + 1) env) hh (tupAt _ _ _ hT F3) (lookup_relabel_local hx) (lookup_relabel_local hy) (by simp [compEnvC, relabel, hkind]) (hn'.at' fun o e => k3 _ o (Ne.symm hIC) e) fun h4 tk4 hn4 hs4 => ?_
        have k4 : ∀ b o, b ≠ I + 1 + 1 → h3.get? b = some o → h4.get? b = some o := fun b o hb e => hs4 b o hb e
        have F4 : Fr h₀ L h4 m := ⟨F3.ns.at' fun o e => k4 _ o (Ne.symm hLL.2.2) e, fun b o e => k4 b o (fun q => by rw [q, nC] at e; cases e) (F3.keep b o e), F3.above⟩
        have it4 : h4.IsTupleIter I ax (i + 1) := hst3.1.at fun o e => k4 _ o hIC e
        obtain ⟨oI, heI, hoI⟩ := id it4
        obtain ⟨oC, heC, hoC⟩ := LCg.ns_obj hn4
        have N4 : News h₀ L h4 ((I, oI) :: (I + 1 + 1, oC) :: (I + 1, LCg.lst ys) :: news) := fun p hp => by
          rcases List.mem_cons.mp hp with rfl | hp
          · exact ⟨heI, Ne.symm hLL.1, nI⟩
          · rcases List.mem_cons.mp hp with rfl | hp
            · exact ⟨heC, hLL.2.2, nC⟩
            · refine ⟨k4 _ _ ?_ (N3 p hp).1, (N3 p hp).2⟩
              rcases List.mem_cons.mp hp with rfl | hp
              · exact hDC
              · exact (offN p hp).2.1
        refine wpAny_mono (turn h4 p t u I oI (I + 1 + 1) oC (I + 1) _ ys h4 tk4 _ (List.mem_of_getElem? hp) hoC (by simp [hxy]) (by simp) F4 N4 (LCg.Off3.of offN) ⟨hIC, hID, Ne.symm hDC⟩) (fun yv s5 hq => ?_) fun _ _ e => e
        obtain ⟨h5, tk5, nw, rfl, F5, N5, -, -, rfl, u5, rfl⟩ := hq
        have zI := (N5 (I, oI) List.mem_cons_self).1
        have zC := (N5 (I + 1 + 1, oC) (List.mem_cons_of_mem _ List.mem_cons_self)).1
        have zD := (N5 (I + 1, LCg.lst ys) (List.mem_cons_of_mem _ (List.mem_cons_of_mem _ List.mem_cons_self))).1
        refine append_at (hsz := by rw [List.size_toArray, hyl, sizeLine_eq]; omega) zD fun h6 hs6 hD6 => ?_
        refine ⟨ps.length + 1 - (i + 1), by omega, h6, tk5, i + 1, ys ++ [g p u5], _, rfl, hlt', rfl, by rw [List.length_append, List.length_singleton, hyl], by rw [List.take_add_one, hp]; exact hm.snoc, ⟨oI, hs6.extBut _ _ hID zI, hoI⟩, F5.change hs6 hLL.2.1 nD,
          (hoC.ns zC).sameBut hs6 (Ne.symm hDC), fun p hp => ?_⟩
        rcases List.mem_cons.mp hp with rfl | hp
        · exact ⟨hD6.trans (congrArg some (LCg.lst_snoc ys _)), hLL.2.1, nD⟩
        · have z := N5 p (List.mem_cons_of_mem _ (List.mem_cons_of_mem _ (List.mem_cons_of_mem _ hp)))
          exact ⟨hs6.extBut _ _ (offN p hp).2.2 z.1, z.2⟩
      · have e : i = ps.length := by omega
        subst e
        rw [List.take_length] at hm
        have hst : h'.IsTupleIter I ax vs.toArray.size := by rw [List.size_toArray, hlen]; exact hit
        refine W.done _ _ _ (stOf _ h' hst F') fun h3 tk3 hk3 => ?_
        have k3 : ∀ b o, b ≠ I → h'.get? b = some o → h3.get? b = some o := fun b o hb e => hk3 b o (by simpa using hb) e
        exact hR h3 tk3 ys _ hm ⟨F'.ns.at' fun o e => k3 _ o hLL.1 e, fun b o e => k3 b o (fun q => by rw [q, nI] at e; cases e) (F'.keep b o e), F'.above⟩
          (fun p hp => ⟨k3 _ _ (by
            rcases List.mem_cons.mp hp with rfl | hp
            · exact Ne.symm hID
            · exact (offN p hp).1) (N' p hp).1, (N' p hp).2⟩) (hn'.at' fun o e => k3 _ o (Ne.symm hIC) e)
    · rcases List.mem_cons.mp hp with rfl | hp
      · exact ⟨hD2, hLL.2.1, nD⟩
      · exact ⟨old _ _ (N p hp).1, (N p hp).2⟩
  refine codeAny_compStart_list (loop _ _ rfl ?_) (W.self 0 _ _ _ (stOf 0 h2 it2 (F.keeps old)) (loop _ _ rfl ?_))
  all_goals
    intro h tk ys m' hm F' N' hn
    refine ⟨m', hn, fun h'' hs'' => fin ys _ h'' tk hm (F'.change hs'' hLL.2.2 nC) (fun p hp => ⟨hs''.extBut _ _ ?_ (N' p hp).1, (N' p hp).2⟩) (off1_of fun p hp => (offN p hp).2.2)⟩
    rcases List.mem_cons.mp hp with rfl | hp
    · exact hDC
    · exact (offN p hp).2.1
end
inductive PairsAt (h : Heap) : List (Int × Int) → List Value → Prop where
  | nil : PairsAt h [] []
  | cons {p : Int × Int} {ps : List (Int × Int)} {T : Addr} {t u : Tok} {vs : List Value} : IsTup h T [Value.int p.1 t, Value.int p.2 u].toArray → PairsAt h ps vs → PairsAt h (p :: ps) (.ref T :: vs)
theorem PairsAt.length {h : Heap} : ∀ {ps : List (Int × Int)} {vs : List Value}, PairsAt h ps vs → vs.length = ps.length
  | _, _, .nil => rfl
  | _, _, .cons _ r => congrArg (· + 1) r.length
theorem PairsAt.at {h : Heap} : ∀ {ps : List (Int × Int)} {vs : List Value}, PairsAt h ps vs → ∀ (i : Nat) (v : Value), vs[i]? = some v → ∃ p T t u, ps[i]? = some p ∧ v = .ref T ∧ IsTup h T #[.int p.1 t, .int p.2 u]
  | _, _, .nil, i, v, e => by simp at e
  | _, _, .cons (p := p) (T := T) (t := t) (u := u) k _, 0, v, e => ⟨p, T, t, u, rfl, by simpa using e.symm, k⟩
  | _, _, .cons _ r, i + 1, v, e => by
    obtain ⟨p, T, t, u, h1, h2, h3⟩ := r.at i v (by simpa using e)
    exact ⟨p, T, t, u, by simpa using h1, h2, h3⟩
theorem PairSrc.intro {prog : Program} {w : World} {A : Around} {h₀ : Heap} {L : Addr} {m : PySem.Str → Option Value} {env : Env} {elt : PySem.Expr} {x y : PySem.Str} {scope : Scope} {cl : List (PySem.Str × Addr)} {g : Int × Int → Tok → Value} {Q : Value → Shared → Prop} {ax : Addr} {vs : List Value} {ps : List (Int × Int)} {news : List (Addr × Obj)} {s₁ : Shared}
    (hh : A.handled = none) (F : Fr h₀ L s₁.heap m) (N : News h₀ L s₁.heap news) (ht : IsTup h₀ ax vs.toArray) (hp : PairsAt h₀ ps vs) (hz : ps.length ≤ 1000)
    (turn : ∀ g', PairTurn prog w A h₀ L m env elt x y scope cl g ps news { s₁ with heap := g' }) (fin : CodeFin h₀ L m g Q ps news s₁) : PairSrc prog w A h₀ L m env elt x y scope cl g Q (.ref ax) s₁ :=
  ⟨ax, vs, ps, news, rfl, hh, F, N, ht, hp.length, hp.at, hz, turn, fin⟩
end Mine
end PartComp4
section PartF6
open PySem PySem.W PyProof.Rows
namespace Mine
theorem forgetF6 : True := by
  k_with_none
  trivial
theorem say_words6 : True := by
  k_with "e_news" => (first | k_asm | (refine' cb_drop ?cbN ?cbS; (case cbN => assumption); (case cbS => kcj_all)))
  k_with "e_enter" => (refine wpAny_call ?_; k_dflt cell_enter)
  k_with "e_con" => ((case k1 => k_asm); (case k2 => k_asm); (case k3 => k_asm); (case k4 => k_asm); (case k5 => k_asm); (case k6 => first | exact rfl | assumption); (case k7 => first | ((simp only [depth_under_make, depth_under_kw, depth_in1, depth_deeper, depth_caller, ktrTop]); omega) | ktr_room); (case k8 => first | ((simp only [units_under_make, units_in1, units_deeper, Around.mark_units, units_caller, ktrTop]); omega) | ktr_units); k_whole)
  trivial
/-- lower_text upon three letters; month_number; is_figures; int -/
def lowC (c : Int) : Int := if 65 ≤ c ∧ c ≤ 90 then c + 32 else c
theorem con_lower_code (w : World) (c : Int) (t : Tok) (news) : Con 1 w 61 [.int c t] news (Pl (.int (lowC c))) := by
  unfold Con
  k_fill
  w_on
  intro mean mg mb dp un gd cn cs a ccd cl outer A₀ base h₀ L m s Q E B F X N T hk hd hu hret
  k_extra "e_enter"
  k_steps
  all_goals (refine ret_int hret (by k_asm) (by k_extra "e_news") ?_)
  all_goals (unfold lowC; split <;> omega)
theorem wordF61 : True := by
  k_with "call ref~" => (k_here; k_dflt (refine' Con.plain (con_lower_code _ _ _ _) ?k1.wF61 ?k2.wF61 ?k3.wF61 ?k4.wF61 ?k5.wF61 ?k6.wF61 ?k7.wF61 ?k8.wF61 ?_; k_extra "e_con"); intro t9 h9 tk9 F9 N9; (try k_fold))
  trivial
def lowN (k : Nat) : Nat := if 65 ≤ k ∧ k ≤ 90 then k + 32 else k
theorem lowN_val (k : Nat) (u : Tok) : Value.str ⟨#[(lowC (k : Int)).toNat]⟩ u = Value.str ⟨#[lowN k]⟩ u := by
  have e : (lowC (k : Int)).toNat = lowN k := by
    unfold lowC lowN; split <;> split <;> omega
  rw [e]
def lowS (x : PySem.Str) : PySem.Str := ⟨(x.cps.toList.map lowN).toArray⟩
theorem wordF62 : True := by
  k_with "eval ListComp~" => (k_here; (with_reducible show PySem.wpAny _ _ (PySem.eval (PySem.Expr.ListComp _ [⟨PySem.Expr.Name (PySem.Str.ofString "sign") _, _, [], _⟩] _ _) _) _ _ _); k_dflt (refine ListComp_codes (fun k u => Value.str ⟨#[lowN k]⟩ u) (F₀ := by k_asm) (by with_unfolding_all rfl) (by decide) (by rfl) (by decide) (by rfl) ?_))
  trivial
theorem wordF63 : True := by
  k_with "CodeSrc~" => (k_here; k_dflt (refine ⟨_, _, _, iter_str, rfl, by k_asm, by k_asm, by k_extra "c_size", ?turn.wF63, ?fin.wF63⟩); (case' turn => (intro g'; unfold CodeTurn; intro k' t' I' oI' C' oC' D' m' ys' h' tk' E' hk' hC' hx' F' N' off' ne'; (try dsimp only at hx'); (try k_fold))); (case' fin => (unfold CodeFin; intro ys' D' h' tk' made' F' N' off'; (try k_fold))))
  trivial
theorem wordF64 : True := by
  k_with "call builtin:chr~" => (k_here; (with_reducible show PySem.wpAny _ _ (PySem.call (Value.builtin "chr") [Value.int _ _]) _ _ _); k_dflt (refine' chr_of_range ?a.wF64 ?b.wF64 ?_; (case a => k_extra "chr_lo"); (case b => k_extra "chr_hi")))
  trivial
theorem wordF65 : True := by
  k_with "call builtin:str.join~" => (k_here; k_dflt ((show PySem.wpAny _ _ (PySem.call (Value.builtin "str.join") [Value.str _ _, Value.ref _]) _ _ _); refine' join_list ?a.wF65 ?b.wF65 ?c.wF65 ?_; (case a => exact News.isList (by k_asm) (by k_mem)); (case b => k_extra "j_strs"); (case c => k_extra "j_size")); intro t9 k9)
  trivial
theorem wordF66 : True := by
  k_with "CompEnd~" => (k_here; k_dflt (refine LCg.CompEnd.intro (by k_asm) (by k_asm) _ ?sub.wF66 (by assumption) trivial ?el.wF66; (case el => k_extra "c_el"); (case sub => kcf_all)))
  trivial
theorem con_lower_text (w : World) (x : PySem.Str) (t : Tok) (news) (hlen : x.cps.size ≤ 1000) (hx : ∀ k ∈ x.cps.toList, k < 128) : Con 2 w 66 [.str x t] news (Pl (.str (lowS x))) := by
  unfold Con
  k_fill
  w_on
  intro mean mg mb dp un gd cn cs aa ccd cl outer A₀ base h₀ L m s Q E B F X N T hk hd hu hret
  k_with "c_size" => (rw [Array.length_toList, sizeLine_eq]; omega)
  k_with "chr_lo" => (unfold lowC; split <;> omega)
  k_with "chr_hi" => ((have hq := hx _ (by assumption)); unfold lowC; split <;> omega)
  k_with "j_strs" => ((with_reducible rename Made _ _ _ => hM); exact Made.strs hM)
  k_with "j_size" => (rw [sum_ones, List.length_map, Array.length_toList]; show _ + _ * 0 ≤ _; omega)
  k_with "c_el" => exact ⟨rfl, _, lowN_val _ _⟩
  k_extra "e_enter"
  k_steps
  exact ret_str hret (by k_asm) (by k_extra "e_news") (join_codes _ _)
end Mine
end PartF6
section PartF7
open PySem PySem.W PyProof.Rows
namespace Mine
theorem forgetF7 : True := by
  k_with_none
  trivial
theorem say_words7 : True := by
  k_with "e_news" => (first | k_asm | (refine' cb_drop ?cbN ?cbS; (case cbN => assumption); (case cbS => kcj_all)))
  k_with "e_enter" => (refine wpAny_call ?_; k_dflt cell_enter)
  k_with "e_con" => ((case k1 => k_asm); (case k2 => k_asm); (case k3 => k_asm); (case k4 => k_asm); (case k5 => k_asm); (case k6 => first | exact rfl | assumption); (case k7 => first | ((simp only [depth_under_make, depth_under_kw, depth_in1, depth_deeper, depth_caller, ktrTop]); omega) | ktr_room); (case k8 => first | ((simp only [units_under_make, units_in1, units_deeper, Around.mark_units, units_caller, ktrTop]); omega) | ktr_units); k_whole)
  trivial
def Ascii (x : PySem.Str) : Prop := x.cps.size ≤ 1000 ∧ ∀ k ∈ x.cps.toList, k < 128
theorem wordF71 : True := by
  k_with "call ref~" => (k_here; k_dflt (refine' Con.plain (con_lower_text _ _ _ _ ?c1.wF71 ?c2.wF71) ?k1.wF71 ?k2.wF71 ?k3.wF71 ?k4.wF71 ?k5.wF71 ?k6.wF71 ?k7.wF71 ?k8.wF71 ?_; (case c1 => k_extra "lt1"); (case c2 => k_extra "lt2"); k_extra "e_con"); intro t9 h9 tk9 F9 N9; (try k_fold))
  trivial
theorem wordF72 : True := by
  k_with "eval ListComp~" => (k_here; (with_reducible show PySem.wpAny _ _ (PySem.eval (PySem.Expr.ListComp _ [⟨PySem.Expr.Name (PySem.Str.ofString "name") _, _, [], _⟩] _ _) _) _ _ _); k_dflt (refine ListComp_codes (fun (x : PySem.Str) u => Value.str (lowS x) u) (F₀ := by k_asm) (by with_unfolding_all rfl) (by decide) (by rfl) (by decide) (by rfl) ?_))
  trivial
theorem wordF73 : True := by
  k_with "exec Assign cons ListComp~" => (k_here; (with_reducible show PySem.wpAny _ _ (PySem.exec (PySem.Stmt.Assign _ (PySem.Expr.ListComp _ [⟨PySem.Expr.Name (PySem.Str.ofString "name") _, _, [], _⟩] _ _) _) _) _ _ _); k_dflt (refine Assign_codes (fun (x : PySem.Str) u => Value.str (lowS x) u) (F₀ := by k_asm) (by rfl) (by with_unfolding_all rfl) (by with_unfolding_all rfl) (by decide) (by rfl) (by decide) (by rfl) (by rfl) (by rfl) ?_))
  trivial
theorem wordF74 : True := by
  k_with "CodeSrc~" => (k_here; k_dflt (refine ⟨fun (x : PySem.Str) u => Value.str x u, _, _, iter_tuple (tupK (by k_in) (by k_is)) (by repeat constructor), rfl, by k_asm, by k_asm, by decide +kernel, ?turn.wF74, ?fin.wF74⟩); (case' turn => (intro g'; unfold CodeTurn; intro k' t' I' oI' C' oC' D' m' ys' h' tk' E' hk' hC' hx' F' N' off' ne'; (try dsimp only at hx'); (try k_fold))); (case' fin => (first | unfold CodeFin | unfold CodeFinA); intro ys' D' h' tk' made' F' N' off'; (try k_fold)))
  trivial
theorem wordF75 : True := by
  k_with "CompEnd~" => (k_here; k_dflt (refine LCg.CompEnd.intro (by k_asm) (by k_asm) _ ?sub.wF75 (by assumption) trivial ?el.wF75; (case el => exact ⟨rfl, _, rfl⟩); (case sub => kcf_all)))
  trivial
def dayNames : List PySem.Str := [PySem.Str.ofString "Mon", PySem.Str.ofString "Tue", PySem.Str.ofString "Wed", PySem.Str.ofString "Thu", PySem.Str.ofString "Fri", PySem.Str.ofString "Sat", PySem.Str.ofString "Sun"]
def monNames : List PySem.Str := [PySem.Str.ofString "Jan", PySem.Str.ofString "Feb", PySem.Str.ofString "Mar", PySem.Str.ofString "Apr", PySem.Str.ofString "May", PySem.Str.ofString "Jun", PySem.Str.ofString "Jul", PySem.Str.ofString "Aug", PySem.Str.ofString "Sep", PySem.Str.ofString "Oct", PySem.Str.ofString "Nov", PySem.Str.ofString "Dec"]
theorem days_ascii : ∀ k ∈ dayNames, k.cps.size ≤ 1000 ∧ ∀ c ∈ k.cps.toList, c < 128 := by decide +kernel
theorem mons_ascii : ∀ k ∈ monNames, k.cps.size ≤ 1000 ∧ ∀ c ∈ k.cps.toList, c < 128 := by decide +kernel
theorem wordF76 : True := by
  k_with "compareOp In str ref~" => (k_here; k_dflt ((with_reducible rename Made _ _ _ => hM); refine' in_list_strs ?a.wF76 (Made.strs hM) ?_; (case a => exact News.isList (by k_asm) (by k_mem))))
  trivial
theorem con_is_day_name (w : World) (x : PySem.Str) (t : Tok) (news) (hx : x ∈ dayNames) : Con 3 w 231 [.str x t] news (Pl (fun _ => .bool true)) := by
  unfold Con
  k_fill
  w_on
  intro mean mg mb dp un gd cn cs aa ccd cl outer A₀ base h₀ L m s Q E B F X N T hk hd hu hret
  k_with "lt1" => exact (days_ascii _ (by assumption)).1
  k_with "lt2" => exact (days_ascii _ (by assumption)).2
  k_extra "e_enter"
  k_steps
  exact ret_bool hret (by k_asm) (by k_extra "e_news") (List.any_eq_true.mpr ⟨lowS x, List.mem_map.mpr ⟨x, hx, rfl⟩, beq_self_eq_true _⟩)
def lowMons : List PySem.Str := monNames.map lowS
theorem mon_apart : ∀ j : Nat, j < 12 → ∀ i : Nat, i < j → lowMons.getD i PySem.Str.empty ≠ lowMons.getD j PySem.Str.empty := by decide +kernel
theorem mon_len : lowMons.length = 12 := by decide
theorem mon_at {j : Nat} {x : PySem.Str} (hj : j < 12) (hx : monNames[j]? = some x) : lowMons[j]? = some (lowS x) ∧ x ∈ monNames := ⟨by
  show (monNames.map lowS)[j]? = _
  rw [List.getElem?_map, hx]; rfl, List.mem_of_getElem? hx⟩
theorem wordF77 : True := by
  k_with "call builtin:list.index~" => (k_here; k_dflt ((show PySem.wpAny _ _ (PySem.call (Value.builtin "list.index") [Value.ref _, Value.str _ _]) _ _ _); k_extra "idx_rule"))
  trivial
theorem mon_index {s : Shared} {l : Addr} {vs : List Value} {j : Nat} {x : PySem.Str} {t : Tok} {prog : Program} {w : World} {A : Around} {E : Value → Shared → Prop} {Q : Value → Shared → Prop} (hl : s.heap.IsList l vs.toArray) (hM : Made (fun (x : PySem.Str) u => Value.str (lowS x) u) monNames vs)
    (hj : j < 12) (hjl : lowMons[j]? = some (lowS x)) (h : Q (.int (j : Nat) s.toks) { s with toks := s.toks + 1 }) : wpAny (model prog w) A (PySem.call (.builtin "list.index") [.ref l, .str (lowS x) t]) Q E s := by
  have hm : StrsAre vs lowMons := Made.strs hM
  refine index_strs hl hm (by rw [Made.length hM, mon_len]; rfl) (by rw [mon_len]; exact hj) (by rw [mon_len]; decide) (List.getElem?_eq_some_iff.mp hjl).2 (fun i hi hij e => ?_) h
  have q := mon_apart j hj i hij
  rw [List.getD_eq_getElem?_getD, List.getD_eq_getElem?_getD, hjl, List.getElem?_eq_getElem hi] at q
  exact q e
theorem mon_any {j : Nat} {x : PySem.Str} (hjl : lowMons[j]? = some (lowS x)) : (lowMons.any fun y => y == lowS x) = true := List.any_eq_true.mpr ⟨lowS x, List.mem_of_getElem? hjl, beq_self_eq_true _⟩
theorem con_month_number (w : World) (x : PySem.Str) (j : Nat) (t : Tok) (news) (hj : j < 12) (hjx : monNames[j]? = some x) : Con 3 w 226 [.str x t] news (Pl (.int ((j : Int) + 1))) := by
  unfold Con
  k_fill
  w_on
  obtain ⟨hl, hx⟩ := mon_at hj hjx
  intro mean mg mb dp un gd cn cs aa ccd cl outer A₀ base h₀ L m s Q E B F X N T hk hd hu hret
  k_with "lt1" => exact (mons_ascii _ (by assumption)).1
  k_with "lt2" => exact (mons_ascii _ (by assumption)).2
  k_with "idx_rule" => ((with_reducible rename Made _ _ _ => hM); refine mon_index (j := j) (News.isList (by k_asm) (by k_mem)) hM hj hl ?_)
  k_extra "e_enter"
  k_steps
  · exact ret_int hret (by k_asm) (by k_extra "e_news") rfl
  · rename (_ = false) => hf
    exact absurd hf (ne_false_of_eq_true (mon_any hl))
end Mine
end PartF7
section PartF8
open PySem PySem.W PyProof.Rows
namespace Mine
theorem forgetF8 : True := by
  k_with_none
  trivial
theorem say_words8 : True := by
  k_with "e_news" => (first | k_asm | (refine' cb_drop ?cbN ?cbS; (case cbN => assumption); (case cbS => kcj_all)))
  k_with "e_enter" => (refine wpAny_call ?_; k_dflt cell_enter)
  k_with "e_con" => ((case k1 => k_asm); (case k2 => k_asm); (case k3 => k_asm); (case k4 => k_asm); (case k5 => k_asm); (case k6 => first | exact rfl | assumption); (case k7 => first | ((simp only [depth_under_make, depth_under_kw, depth_in1, depth_deeper, depth_caller, ktrTop]); omega) | ktr_room); (case k8 => first | ((simp only [units_under_make, units_in1, units_deeper, Around.mark_units, units_caller, ktrTop]); omega) | ktr_units); k_whole)
  trivial
def Digits (x : PySem.Str) : Prop := x.cps.size ≤ 1000 ∧ 1 ≤ x.cps.size ∧ ∀ k ∈ x.cps.toList, 48 ≤ k ∧ k ≤ 57
theorem wordF81 : True := by
  k_with "eval ListComp~" => (k_here; (with_reducible show PySem.wpAny _ _ (PySem.eval (PySem.Expr.ListComp _ [⟨PySem.Expr.Name (PySem.Str.ofString "sign") _, _, [_], _⟩] _ _) _) _ _ _); k_dflt (refine ListComp_none (F₀ := by k_asm) (by with_unfolding_all rfl) (by decide) (by rfl) (by decide) (by rfl) ?_))
  trivial
theorem wordF82 : True := by
  k_with "NoneSrc~" => (k_here; k_dflt (refine ⟨_, _, _, rfl, rfl, by k_asm, by k_asm, by k_extra "c_size", ?turn.wF82, ?fin.wF82⟩); (case' turn => (intro k' t' C' s' m' E' hk' hC' hx')); (case' fin => (intro D' n' h' tk' F' N' off'; (try k_unmd); (try k_fold))))
  trivial
local macro_rules | `(tactic| walk1) => `(tactic| (k_unmd; k_unfold; (try dsimp only)))
theorem wordF83 : True := by
  k_with "Keeps~" => exact ⟨_, _, rfl, fun _ _ e => e⟩
  trivial
theorem wordF84 : True := by
  k_with "compareOp Eq ref ref~" => (k_here; k_dflt (refine' PySem.SeqAt.eq_listAt (items := #[]) (items2 := #[]) (e := fun _ => true) ?a.wF84 ?b.wF84 rfl ?u.wF84 ?he.wF84 ?_; (case a => exact News.isList (by k_asm) (by k_mem)); (case b => exact News.isList (by k_asm) (by k_mem)); (case u => ktr_units); (case he => (intro j h1 _; exact absurd h1 (Nat.not_lt_zero _)))))
  trivial
theorem digit_lo {k : Nat} (h : 48 ≤ k ∧ k ≤ 57) : ¬ (⟨#[k]⟩ : PySem.Str).cps.toList < (PySem.Str.ofString "0").cps.toList := by
  have e : (PySem.Str.ofString "0").cps.toList = [48] := by decide +kernel
  rw [e]
  show ¬ [k] < [48]
  intro q
  simp only [List.cons_lt_cons_iff, List.not_lt_nil, and_false, or_false] at q
  omega
theorem digit_hi {k : Nat} (h : 48 ≤ k ∧ k ≤ 57) : ¬ (PySem.Str.ofString "9").cps.toList < (⟨#[k]⟩ : PySem.Str).cps.toList := by
  have e : (PySem.Str.ofString "9").cps.toList = [57] := by decide +kernel
  rw [e]
  show ¬ [57] < [k]
  intro q
  simp only [List.cons_lt_cons_iff, List.not_lt_nil, and_false, or_false] at q
  omega
theorem digits_ne {x : PySem.Str} (h : 1 ≤ x.cps.size) : (x != PySem.Str.ofString "") = true := by
  refine bne_iff_ne.mpr fun e => ?_
  rw [e, empty_str] at h
  exact absurd h (by decide)
theorem con_is_figures (w : World) (x : PySem.Str) (t : Tok) (news) (hx : Digits x) : Con 2 w 255 [.str x t] news (Pl (fun _ => .bool true)) := by
  unfold Con
  k_fill
  w_on
  obtain ⟨hx1, hx2, hx3⟩ := hx
  intro mean mg mb dp un gd cn cs aa ccd cl outer A₀ base h₀ L m s Q E B F X N T hk hd hu hret
  k_with "c_size" => (rw [sizeLine_eq]; omega)
  k_extra "e_enter"
  k_steps
  · exact ret_bool hret (by k_asm) (by k_extra "e_news") rfl
  · exact absurd (by assumption) (digit_lo (hx3 _ (by assumption)))
  · rw [decide_eq_false (digit_hi (hx3 _ (by assumption)))]; rfl
  · exact absurd (digits_ne hx2) (by simp only [*]; decide)
end Mine
end PartF8
section PartF9
open PySem PySem.W PyProof.Rows PySem.Calls
namespace Mine
theorem forgetF9 : True := by
  k_with_none
  trivial
theorem say_words9 : True := by
  k_with "e_news" => (first | k_asm | (refine' cb_drop ?cbN ?cbS; (case cbN => assumption); (case cbS => kcj_all)))
  k_with "e_enter" => (refine wpAny_call ?_; k_dflt cell_enter)
  k_with "e_con" => ((case k1 => k_asm); (case k2 => k_asm); (case k3 => k_asm); (case k4 => k_asm); (case k5 => k_asm); (case k6 => first | exact rfl | assumption); (case k7 => first | ((simp only [depth_under_make, depth_under_kw, depth_in1, depth_deeper, depth_caller, ktrTop]); omega) | ktr_room); (case k8 => first | ((simp only [units_under_make, units_in1, units_deeper, Around.mark_units, units_caller, ktrTop]); omega) | ktr_units); k_whole)
  trivial
section
variable {prog : Program} {w : World} {A : Around} {E : Value → Shared → Prop} {s : Shared} {Q : Value → Shared → Prop}
/-- an item of a list at a place in bounds -/
theorem item_at {value slice : PySem.Expr} {l : Addr} {vs : List Value} {i : Int} {u : Tok} {v : Value} (hl : s.heap.IsList l vs.toArray) (h0 : 0 ≤ i) (h1 : i < 2 ^ 63) (hx : vs[i.toNat]? = some v) (h : Q v s)
    (hs : subscripted slice false (.ref l) (.int i u) = operate [.ref l, .int i u] (getItem (.ref l) (.int i u)) := by with_unfolding_all rfl) :
    wpAny (model prog w) A (subscriptTail value slice (.ref l) (.int i u)) Q E s :=
  tail_any hl.typeIs slot_list_getitem.lookup (wpAny_getItem_list hl h0 h1 (by simpa using hx) h) hs
theorem len_vs {l : Addr} {vs : List Value} (hl : s.heap.IsList l vs.toArray) (hb : vs.length < 1000) (h : ∀ t k, Q (.int (vs.length : Int) t) { s with toks := k }) : wpAny (model prog w) A (PySem.call (.builtin "len") [.ref l]) Q E s :=
  PyProof.Rows.len_list hl (by rw [List.size_toArray]; omega) (by rw [List.size_toArray]; exact h _ _)
theorem ne_str_val {x y : PySem.Str} {t u : Tok} {v : Bool} (hv : (x != y) = v) (h : Q (.bool v) s) : wpAny (model prog w) A (compareOp .NotEq (.str x t) (.str y u)) Q E s := ne_str (by rw [hv]; exact h)
end
theorem join_small {ks : List Nat} (h : ks.length ≤ 1000) : ((ks.map fun k => (⟨#[k]⟩ : PySem.Str)).map (·.length)).sum + (ks.map fun k => (⟨#[k]⟩ : PySem.Str)).length * (PySem.Str.ofString "").length ≤ 16777216 := by
  have e := sum_ones (fun k => k) ks
  rw [e, List.length_map]
  show _ + _ * 0 ≤ _
  omega
theorem bytes_codes {b : Array UInt8} {x : PySem.Str} (h : KBw.bInts b = KStt.codes x) : b.toList.map UInt8.toNat = x.cps.toList := by
  have inj : ∀ (l : List UInt8) (r : List Nat), (l.map fun c => ((c.toNat : Nat) : Int)) = (r.map fun c => ((c : Nat) : Int)) → l.map UInt8.toNat = r := by
    intro l
    induction l with
    | nil => intro r h; cases r with | nil => rfl | cons a q => cases h
    | cons a q ih => intro r h; cases r with
      | nil => cases h
      | cons c d =>
        simp only [List.map_cons, List.cons.injEq, Int.natCast_inj] at h
        rw [List.map_cons, h.1, ih d h.2]
  exact inj _ _ h
local macro_rules | `(tactic| walk1) => `(tactic| (k_unmd; k_unfold; (try dsimp only)))
local macro_rules | `(tactic| k_get) => `(tactic| assumption)
theorem wordF91 : True := by
  k_with "subscriptTail~" => (k_here; k_dflt (refine' item_at ?a.wF91 ?b.wF91 ?c.wF91 ?d.wF91 ?_; (case a => exact News.isList (by k_asm) (by k_mem)); (case b => k_extra "it_b"); (case c => k_extra "it_c"); (case d => k_extra "it_d")))
  trivial
theorem wordF92 : True := by
  k_with "eval ListComp~" => (k_here; (with_reducible show PySem.wpAny _ _ (PySem.eval (PySem.Expr.ListComp _ [⟨PySem.Expr.Name (PySem.Str.ofString "code") _, _, [], _⟩] _ _) _) _ _ _); k_dflt (refine ListComp_codes (fun (k : Nat) u => Value.str ⟨#[k]⟩ u) (F₀ := by k_asm) (by with_unfolding_all rfl) (by decide) (by rfl) (by decide) (by rfl) ?_))
  trivial
theorem wordF93 : True := by
  k_with "CodeSrc~" => (k_here; k_dflt (refine ⟨_, _, _, iter_bytes, rfl, by k_asm, by k_asm, by k_extra "c_size", ?turn.wF93, ?fin.wF93⟩); (case' turn => (intro g'; unfold CodeTurn; intro k' t' I' oI' C' oC' D' m' ys' h' tk' E' hk' hC' hx' F' N' off' ne'; (try dsimp only at hx'); (try k_fold))); (case' fin => (unfold CodeFin; intro ys' D' h' tk' made' F' N' off'; (try k_unmd); (try k_fold))))
  trivial
theorem wordF94 : True := by
  k_with "call builtin:chr~" => (k_here; (with_reducible show PySem.wpAny _ _ (PySem.call (Value.builtin "chr") [Value.int _ _]) _ _ _); k_dflt (refine' chr_of_range ?a.wF94 ?b.wF94 ?_; (case a => k_extra "chr_lo"); (case b => k_extra "chr_hi")))
  trivial
theorem wordF95 : True := by
  k_with "call builtin:str.join~" => (k_here; k_dflt ((show PySem.wpAny _ _ (PySem.call (Value.builtin "str.join") [Value.str _ _, Value.ref _]) _ _ _); refine' join_list ?a.wF95 ?b.wF95 ?c.wF95 ?_; (case a => exact News.isList (by k_asm) (by k_mem)); (case b => k_extra "j_strs"); (case c => k_extra "j_size")); intro t9 k9)
  trivial
theorem wordF96 : True := by
  k_with "CompEnd~" => (k_here; k_dflt (refine LCg.CompEnd.intro (by k_asm) (by k_asm) _ ?sub.wF96 (by assumption) trivial ?el.wF96; (case el => exact ⟨rfl, _, rfl⟩); (case sub => kcf_all)))
  trivial
theorem wordF97 : True := by
  k_with "call builtin:len~" => (k_here; (with_reducible show PySem.wpAny _ _ (PySem.call (Value.builtin "len") [Value.ref _]) _ _ _); k_dflt (refine' len_vs ?a.wF97 ?b.wF97 ?_; (case a => exact News.isList (by k_asm) (by k_mem)); (case b => assumption)); intro t9 k9)
  trivial
theorem wordF98 : True := by
  k_with "compareOp NotEq str str~" => (k_here; k_dflt (refine' ne_str_val (v := false) ?a.wF98 ?_; (case a => decide +kernel)))
  trivial
theorem con_atom {w : World} {rx rd T D : Addr} {es : List DictEntry} {k n : Nat} {i : Int} {u : Tok} {refs : List Value} {X : PySem.Str} {a : Int} {xt : Tok} {xb : Array UInt8} {xu xv : Tok} {news : List (Addr × Obj)}
   (m1 : (rx, instObj 317 rd) ∈ news) (m2 : (rd, dictOf es k) ∈ news) (m3 : (T, listOf refs.toArray n) ∈ news) (m4 : (D, ({ cls := .type "tuple", data := .seq #[.str (PySem.Str.ofString "atom") xt, .bytes xb xu, .int a xv] } : Obj)) ∈ news)
   (g1 : getL (PySem.Str.ofString "tokens") es = some (some (.ref T))) (g2 : getL (PySem.Str.ofString "at") es = some (some (.int i u))) (hi0 : 0 ≤ i) (hi1 : i < 1000) (hi : i < refs.length) (hl : refs.length < 1000) (hr : refs[i.toNat]? = some (.ref D))
   (hx : KBw.bInts xb = KStt.codes X) (hlen : X.cps.size ≤ 1000) (hasc : ∀ k ∈ X.cps.toList, k < 256) : Con 3 w 293 [.ref rx] news (Pl (.str X)) := by
  unfold Con
  k_fill
  w_on
  intro mean mg mb dp un gd cn cs aa ccd cl outer A₀ base h₀ L m s Q E B F X' N T' hk hd hu hret
  k_with "it_b" => assumption
  k_with "it_c" => omega
  k_with "it_d" => assumption
  k_with "c_size" => (rw [bytes_codes hx, Array.length_toList, sizeLine_eq]; omega)
  k_with "chr_lo" => omega
  k_with "chr_hi" => ((with_reducible rename (_ ∈ List.map UInt8.toNat _) => hq); rw [bytes_codes hx] at hq; have q := hasc _ hq; omega)
  k_with "j_strs" => ((with_reducible rename Made _ _ _ => hM); exact Made.strs hM)
  k_with "j_size" => (exact join_small (by rw [bytes_codes hx, Array.length_toList]; exact hlen))
  k_extra "e_enter"
  k_steps
  exact ret_str hret (by k_asm) (by k_extra "e_news") ((join_codes (fun k => k) _).trans (by rw [List.map_id', bytes_codes hx]))
end Mine
end PartF9
section PartF10
open PySem PySem.W PyProof.Rows PySem.Calls
namespace Mine
theorem forgetF10 : True := by
  k_with_none
  trivial
theorem say_words10 : True := by
  k_with "e_news" => (first | k_asm | (refine' cb_drop ?cbN ?cbS; (case cbN => assumption); (case cbS => kcj_all)))
  k_with "e_enter" => (refine wpAny_call ?_; k_dflt cell_enter)
  k_with "e_con" => ((case k1 => k_asm); (case k2 => k_asm); (case k3 => k_asm); (case k4 => k_asm); (case k5 => k_asm); (case k6 => first | exact rfl | assumption); (case k7 => first | ((simp only [depth_under_make, depth_under_kw, depth_in1, depth_deeper, depth_caller, ktrTop]); omega) | ktr_room); (case k8 => first | ((simp only [units_under_make, units_in1, units_deeper, Around.mark_units, units_caller, ktrTop]); omega) | ktr_units); k_whole)
  trivial
theorem off1_mem {D : Addr} : ∀ {l : List (Addr × Obj)}, LCg.Off1 D l → ∀ p ∈ l, p.1 ≠ D
  | [], _, _, h => nomatch h
  | _ :: _, x, p, h => by
    rcases List.mem_cons.mp h with rfl | h
    · exact x.1
    · exact off1_mem x.2 p h
/-- a token that is no comment -/
def NoComment (news : List (Addr × Obj)) (v : Value) : Prop := ∃ (D : Addr) (kd : PySem.Str) (a : Int) (xt : Tok) (xb : Array UInt8) (xu xv : Tok), v = .ref D ∧ (D, ({ cls := .type "tuple", data := .seq #[.str kd xt, .bytes xb xu, .int a xv] } : Obj)) ∈ news ∧ (kd != PySem.Str.ofString "comment") = true
local macro_rules | `(tactic| walk1) => `(tactic| (k_unmd; k_unfold; (try dsimp only)))
theorem wordF101 : True := by
  k_with "Keeps~" => exact ⟨_, _, rfl, fun _ _ e => e⟩
  trivial
theorem wordF102 : True := by
  k_with "eval ListComp~" => (k_here; (with_reducible show PySem.wpAny _ _ (PySem.eval (PySem.Expr.ListComp _ [⟨PySem.Expr.Name (PySem.Str.ofString "token") _, _, [_], _⟩] _ _) _) _ _ _); k_dflt (refine ListComp_all (F₀ := by k_asm) (by with_unfolding_all rfl) (by decide) (by rfl) (by decide) (by rfl) ?_))
  trivial
theorem wordF103 : True := by
  k_with "AllSrc~" => (k_here; k_dflt (refine ⟨_, _, _, _, rfl, rfl, by k_asm, by k_asm, by k_mem, by k_extra "c_size", ?turn.wF103, ?el.wF103, ?fin.wF103⟩); (case' turn => (intro v' C' s' m' E' hv' hC' hx' F' N'; k_extra "al_item"; (try k_unmd))); (case' el => (intro v' C' s' m' E' hv' hC' hx' F' N'; k_extra "al_item"; (try k_unmd))); (case' fin => (intro D' n' h' tk' F' N' off'; (try k_unmd); (try k_fold))))
  trivial
theorem con_without_comments (w : World) (l : Addr) (its : List Value) (n : Nat) (news : List (Addr × Obj)) (ml : (l, listOf its.toArray n) ∈ news) (hsz : its.length < 1000)
   (hg : ∀ v ∈ its, NoComment news v) : Con 2 w 135 [.ref l] news (fun r tl => ∃ D n, r = .ref D ∧ tl = [(D, listOf its.toArray n)]) := by
  unfold Con
  k_fill
  w_on
  intro mean mg mb dp un gd cn cs aa ccd cl outer A₀ base h₀ L m s Q E B F X' N T' hk hd hu hret
  k_with "c_size" => (rw [sizeLine_eq]; omega)
  k_with "al_item" => ((with_reducible rename (_ ∈ its) => hv); obtain ⟨D8, kd8, a8, xt8, xb8, xu8, xv8, q8, mm8, kk8⟩ := hg _ hv; subst q8)
  k_extra "e_enter"
  k_steps
  with_reducible rename LCg.Off1 _ _ => hoff
  exact hret _ [_] _ _ (by k_asm) (by k_asm) (fun q hq p hp => by rw [List.mem_singleton.mp hp]; exact off1_mem hoff q hq) ⟨_, _, rfl, rfl⟩
end Mine
end PartF10
section PartF11
open PySem PySem.W PyProof.Rows PySem.Calls
namespace Mine
theorem forgetF11 : True := by
  k_with_none
  trivial
theorem say_words11 : True := by
  k_with "e_news" => (first | k_asm | (refine' cb_drop ?cbN ?cbS; (case cbN => assumption); (case cbS => kcj_all)))
  k_with "e_enter" => (refine wpAny_call ?_; k_dflt cell_enter)
  k_with "e_con" => ((case k1 => k_asm); (case k2 => k_asm); (case k3 => k_asm); (case k4 => k_asm); (case k5 => k_asm); (case k6 => first | exact rfl | assumption); (case k7 => first | ((simp only [depth_under_make, depth_under_kw, depth_in1, depth_deeper, depth_caller, ktrTop]); omega) | ktr_room); (case k8 => first | ((simp only [units_under_make, units_in1, units_deeper, Around.mark_units, units_caller, ktrTop]); omega) | ktr_units); k_whole)
  trivial
local macro_rules | `(tactic| walk1) => `(tactic| (k_unmd; k_unfold; (try dsimp only)))
theorem wordF111 : True := by
  k_with "call ref~" => (k_here; k_dflt (refine' Con.plain (con_is_figures _ _ _ _ ?c1.wF111) ?k1.wF111 ?k2.wF111 ?k3.wF111 ?k4.wF111 ?k5.wF111 ?k6.wF111 ?k7.wF111 ?k8.wF111 ?_; (case c1 => k_extra "digits"); k_extra "e_con"); intro t9 h9 tk9 F9 N9; (try k_fold))
  trivial
theorem con_zone_in (w : World) (t : Tok) (news : List (Addr × Obj)) : Con 3 w 262 [.str (PySem.Str.ofString "+0000") t] news (Pl (.int 0)) := by
  unfold Con
  k_fill
  w_on
  intro mean mg mb dp un gd cn cs aa ccd cl outer A₀ base h₀ L m s Q E B F X' N T' hk hd hu hret
  k_with "digits" => exact (by unfold Digits; decide +kernel)
  k_extra "e_enter"
  k_steps
  · rename (_ = true) => hf
    exact absurd hf (by decide +kernel)
  · exact ret_int hret (by k_asm) (by k_extra "e_news") rfl
/-- the text of a date, in tokens -/
structure DateKs (ks : List Int) (p : Int) (w0 w1 w2 w3 w4 w5 w6 w7 : List Int) : Prop where
  hlen : ks.length ≤ 1000
  hn : (ks.length : Int) = p + 24
  hp : 6 ≤ p
  W0 : WhiteRun ks 0 0
  T0 : TokAt ks (PySem.Str.ofString "atom") w0 0 3
  W1 : WhiteRun ks 3 3
  T1 : TokAt ks (PySem.Str.ofString "sign") [44] 3 4
  W2 : WhiteRun ks 4 5
  T2 : TokAt ks (PySem.Str.ofString "atom") w1 5 p
  W3 : WhiteRun ks p (p + 1)
  T3 : TokAt ks (PySem.Str.ofString "atom") w2 (p + 1) (p + 4)
  W4 : WhiteRun ks (p + 4) (p + 5)
  T4 : TokAt ks (PySem.Str.ofString "atom") w3 (p + 5) (p + 9)
  W5 : WhiteRun ks (p + 9) (p + 10)
  T5 : TokAt ks (PySem.Str.ofString "atom") w4 (p + 10) (p + 12)
  W6 : WhiteRun ks (p + 12) (p + 12)
  T6 : TokAt ks (PySem.Str.ofString "sign") [58] (p + 12) (p + 13)
  W7 : WhiteRun ks (p + 13) (p + 13)
  T7 : TokAt ks (PySem.Str.ofString "atom") w5 (p + 13) (p + 15)
  W8 : WhiteRun ks (p + 15) (p + 15)
  T8 : TokAt ks (PySem.Str.ofString "sign") [58] (p + 15) (p + 16)
  W9 : WhiteRun ks (p + 16) (p + 16)
  T9 : TokAt ks (PySem.Str.ofString "atom") w6 (p + 16) (p + 18)
  W10 : WhiteRun ks (p + 18) (p + 19)
  T10 : TokAt ks (PySem.Str.ofString "atom") w7 (p + 19) (p + 24)
  W11 : WhiteRun ks (p + 24) (p + 24)
theorem con_tokens (w : World) (b : Array UInt8) (ks : List Int) (p : Int) (w0 w1 w2 w3 w4 w5 w6 w7 : List Int) (t : Tok) (news) (hb : KBw.bInts b = ks) (K : DateKs ks p w0 w1 w2 w3 w4 w5 w6 w7) : Con 4 w 130 [.bytes b t] news (TokensOut p w0 w1 w2 w3 w4 w5 w6 w7) :=
  con_tokens_of w b ks p w0 w1 w2 w3 w4 w5 w6 w7 t news hb K.hlen K.hn K.hp K.W0 K.T0 K.W1 K.T1 K.W2 K.T2 K.W3 K.T3 K.W4 K.T4 K.W5 K.T5 K.W6 K.T6 K.W7 K.T7 K.W8 K.T8 K.W9 K.T9 K.W10 K.T10 K.W11
end Mine
end PartF11
section PartTup2
open PySem PySem.W PyProof.Rows PySem.Calls
namespace Mine
section
variable {prog : Program} {w : World} {A : Around} {E : Value → Shared → Prop} {s : Shared} {h₀ : Heap} {L : Addr} {m : PySem.Str → Option Value} {news : List (Addr × Obj)}
theorem sliceApplied_two {sl : Addr} {u : Tok} {Q : Int × Int × Nat → Shared → Prop} (hs : s.heap.IsSliceOf sl .none (.int 2 u) .none) (h : Q (0, 1, 2) s) :
    wpAny (model prog w) A (Builtin.Slice.sliceApplied (.ref sl) (pure (3 : Int))) Q E s := by
  obtain ⟨os, hos, hcs, hds⟩ := id hs
  unfold Builtin.Slice.sliceApplied Builtin.Slice.sliceFields
  refine wpAny_bind (wpAny_bind (wpAny_field hos hds (x := .none) rfl (wpAny_bind (wpAny_field hos hds (x := .int 2 u) rfl (wpAny_bind (wpAny_field hos hds (x := .none) rfl (wpAny_pure ?_)))))))
  refine wpAny_bind (slicePart_none ?_)
  show wpAny _ _ (if ((1 : Int) == 0) = true then _ else _) _ _ s
  rw [if_neg (by decide)]
  refine wpAny_bind (slicePart_none (wpAny_bind (slicePart_int (wpAny_bind (wpAny_pure ?_)))))
  show wpAny _ _ (match Builtin.Slice.sliceAdjust none (some (2 : Int)) 1 (3 : Int) with | (lo, hi) => pure (lo, (1 : Int), Builtin.Slice.slicePlaces lo hi 1)) _ _ s
  have e : Builtin.Slice.sliceAdjust none (some (2 : Int)) 1 (3 : Int) = (0, 2) := by decide
  rw [e]
  show wpAny _ _ (pure ((0 : Int), (1 : Int), Builtin.Slice.slicePlaces (0 : Int) (2 : Int) 1)) _ _ s
  have e2 : Builtin.Slice.slicePlaces (0 : Int) (2 : Int) 1 = 2 := by decide
  rw [e2]
  exact wpAny_pure h
theorem getItem_tuple_two {t sl : Addr} {x y z : Value} {u : Tok} {Q : Value → Shared → Prop} (ht : IsTup s.heap t #[x, y, z]) (hs : s.heap.IsSliceOf sl .none (.int 2 u) .none)
    (h : Q (.ref s.heap.objs.size) { s with heap := s.heap.push { cls := .type "tuple", data := .seq #[x, y] } }) : wpAny (model prog w) A (getItem (.ref t) (.ref sl)) Q E s := by
  have hdrop : sizeOk (.seq #[x, y]) := by
    show 2 ≤ sizeLine
    rw [sizeLine_eq]; omega
  obtain ⟨os, hos, hcs, hds⟩ := id hs
  have hTs : s.TypeIs (.ref sl) "slice" := ⟨os, hos, hcs⟩
  unfold getItem
  try with_reducible refine wpAny_holding ?_
  first | refine wpAny_bind (wpAny_pure ?_) | skip
  refine wpAny_bind (wpAny_sequenceKey ht.typeIs (by decide) ?_)
  refine wpAny_bind (wpAny_callSpecial?_slot (name := Str.ofString "__getitem__") ht.typeIs slot_tuple_getitem
    (wpAny_call_entry slot_tuple_getitem ht.typeIs entry_tuple_getitem ?_ (args_tuple_getitem _ _)))
  show wpAny _ _ (Builtin.Tuple.tupleItemsOf (.ref t) >>= _) _ _ s
  refine wpAny_bind (tupleItemsOf_ ht ?_)
  refine wpAny_bind (wpAny_typeOf hTs ?_)
  rw [if_pos (by decide)]
  refine wpAny_bind (sliceApplied_two hs ?_)
  show wpAny _ _ (if ((0 : Int) == 0 && (1 : Int) == 1 && (2 : Nat) == 3) = true then _ else _) _ _ s
  rw [if_neg (by decide)]
  have e : ((List.range 2).filterMap fun (k : Nat) => (#[x, y, z] : Array Value)[((0 : Int) + (k : Int) * 1).toNat]?).toArray = #[x, y] := rfl
  rw [e]
  first
    | exact wpAny_bind (m := Builtin.Tuple.tupleExact _) (wpAny_newObj_type (wpAny_pure ⟨_, rfl, wpAny_pure h⟩) hdrop)
    | exact wpAny_bind (m := Builtin.Tuple.tupleExact _) (wpAny_newObj_type (wpAny_bind (wpAny_pure (wpAny_pure ⟨_, rfl, wpAny_pure h⟩))) hdrop)
    | exact wpAny_bind (wpAny_bind (m := Builtin.Tuple.tupleExact _) (wpAny_newObj_type (wpAny_pure (wpAny_pure ⟨_, rfl, wpAny_pure h⟩)) hdrop))
    | exact wpAny_bind (wpAny_bind (m := Builtin.Tuple.tupleExact _) (wpAny_newObj_type (wpAny_pure ⟨_, rfl, wpAny_pure h⟩) hdrop))
theorem tuple_two {value slice : PySem.Expr} {t : Addr} {x y z : Value} {u : Tok} {Q : Value → Shared → Prop}
    (F : Fr h₀ L s.heap m) (N : News h₀ L s.heap news) (hm : (t, ({ cls := .type "tuple", data := .seq #[x, y, z] } : Obj)) ∈ news)
    (h : ∀ D h', Fr h₀ L h' m → News h₀ L h' ((D, { cls := .type "tuple", data := .seq #[x, y] }) :: news) → (∀ p ∈ news, p.1 < D) → Q (.ref D) { s with heap := h' })
    (hs : subscripted slice false (.ref t) (.ref s.heap.objs.size) = operate [.ref s.heap.objs.size, .ref t] (getItem (.ref t) (.ref s.heap.objs.size)) := by with_unfolding_all rfl)
    (hg : ∀ r, letTemporaryGo value (.ref t) r = pure () := by intro _; with_unfolding_all rfl) :
    wpAny (model prog w) A (subscriptTail value slice (.ref t) (.ref s.heap.objs.size)) Q E { s with heap := s.heap.push { cls := .type "slice", data := .fields #[.none, .int 2 u, .none] } } := by
  have ht : IsTup s.heap t #[x, y, z] := ⟨_, (N _ hm).1, rfl, _, rfl⟩
  have ht' : IsTup (s.heap.push { cls := .type "slice", data := .fields #[.none, .int 2 u, .none] }) t #[x, y, z] := ht.keeps fun _ _ e => Heap.get?_push_of_some _ e
  refine subscriptTail_ops (s := { s with heap := s.heap.push { cls := .type "slice", data := .fields #[.none, .int 2 u, .none] } }) ht'.typeIs slot_tuple_getitem.lookup
    (getItem_tuple_two ht' (Heap.IsSliceOf.new ..) ?_) hs hg
  have N1 := News.push (F.push { cls := .type "slice", data := .fields #[.none, .int 2 u, .none] }) (N.grown fun _ _ e => Heap.get?_push_of_some _ e) { cls := .type "tuple", data := .seq #[x, y] }
  rw [Heap.size_push] at N1
  show Q (.ref (s.heap.push _).objs.size) _
  rw [Heap.size_push]
  exact h _ _ ((F.push _).push _) N1 fun p hp => Nat.lt_succ_of_lt (Heap.lt_size (N p hp).1)
theorem eqAt_bytes {b c : Array UInt8} {t u : Tok} : SeqAt.EqAt A s (.bytes b t) (.bytes c u) (b.toList == c.toList) := fun prog w E Q hq => by
  unfold eqBool
  refine wpAny_holding ?_
  refine wpAny_ite_split (fun hab => ?_) (fun _ => ?_)
  · have e : Value.bytes b t = Value.bytes c u := eq_of_beq hab
    injection e with e1 e2
    subst e1
    rw [beq_self_eq_true] at hq
    exact wpAny_bind (wpAny_rule (wpAny_pure hq))
  · refine wpAny_bind (eq_bytes (prog := prog) (w := w) ?_)
    exact wpAny_truthy_bool hq
/-- two pairs of a text and bytes that are alike -/
theorem ne_pairs {a b : Addr} {x y : PySem.Str} {c d : Array UInt8} {t1 t2 t3 t4 : Tok} {Q : Value → Shared → Prop} (N : News h₀ L s.heap news) (ha : (a, ({ cls := .type "tuple", data := .seq #[.str x t1, .bytes c t2] } : Obj)) ∈ news) (hb : (b, ({ cls := .type "tuple", data := .seq #[.str y t3, .bytes d t4] } : Obj)) ∈ news)
    (e1 : x = y) (e2 : KBw.bInts c = KBw.bInts d) (hu : A.units < cLine) (h : Q (.bool false) s) : wpAny (model prog w) A (compareOp .NotEq (.ref a) (.ref b)) Q E s := by
  subst e1
  refine SeqAt.RcNeAt.tuples (e := fun _ => true) ⟨_, (N _ ha).1, rfl, _, rfl⟩ ⟨_, (N _ hb).1, rfl, _, rfl⟩ hu ?_ prog w E Q h
  intro j h1 h2
  have hj : j = 0 ∨ j = 1 := by
    have : j < 2 := h1
    omega
  rcases hj with rfl | rfl
  · have := SeqAt.EqAt.str_str (A := A.in1) (s := s) x t1 x t3
    rw [beq_self_eq_true] at this
    exact this
  · have := eqAt_bytes (A := A.in1) (s := s) (b := c) (c := d) (t := t2) (u := t4)
    rw [toList_beq, decide_eq_true e2] at this
    exact this
end
end Mine
end PartTup2
section PartF12
open PySem PySem.W PyProof.Rows PySem.Calls
namespace Mine
theorem forgetF12 : True := by
  k_with_none
  trivial
/-- a call that may change what it was given: the ledger after it -/
def ConU (d : Nat) (w : World) (f : Addr) (vs : List Value) (news : List (Addr × Obj)) (P : Value → List (Addr × Obj) → Prop) : Prop :=
  ∀ (mean : ExcName → Option Value) (mg mb : PySem.Str → Option Value) (dp un : Nat) (gd : Option (List Code)) (cn : PySem.Str) (cs : Scope) (a : Addr) (ccd : Value) (cl : List (PySem.Str × Addr)) (outer : List Env) (A₀ : Around) (base h₀ : Heap) (L : Addr) (m : PySem.Str → Option Value) (s : Shared) (Q E : Value → Shared → Prop),
    Below A₀ base outer h₀ → Fr h₀ L s.heap m → (Mine.hd.heap_1 w.params).In h₀ → News h₀ L s.heap news →
    Top Mine.viewM (looseW Mine.viewM [PySem.Str.ofString "PostError", PySem.Str.ofString "MOST_ZONE"]) mean mg mb h₀ → cs.kind = .function → dp + d < recursionLimit → un + 200 * d < cLine →
    (∀ (r : Value) (nw : List (Addr × Obj)) (h' : Heap) (tk' : Nat), Fr h₀ L h' m → News h₀ L h' nw → P r nw → Q r { s with heap := h', toks := tk' }) →
    wpAny (model PySem.Challenge.rw_nz0305_01.row.prog w) (ktrTop dp un gd cn cs L a ccd cl outer) (PySem.call (.ref f) vs) Q E s
theorem ConU.use {d : Nat} {w : World} {f : Addr} {vs : List Value} {news : List (Addr × Obj)} {P : Value → List (Addr × Obj) → Prop} (C : ConU d w f vs news P)
    {mean : ExcName → Option Value} {mg mb : PySem.Str → Option Value} {A : Around} {cn : PySem.Str} {cs : Scope} {a : Addr} {ccd : Value} {cl : List (PySem.Str × Addr)} {outer : List Env} {A₀ : Around} {base h₀ : Heap} {L : Addr} {m : PySem.Str → Option Value} {s : Shared} {Q E : Value → Shared → Prop}
    (B : Below A₀ base outer h₀) (F : Fr h₀ L s.heap m) (X : (Mine.hd.heap_1 w.params).In h₀) (N : News h₀ L s.heap news)
    (T : Top Mine.viewM (looseW Mine.viewM [PySem.Str.ofString "PostError", PySem.Str.ofString "MOST_ZONE"]) mean mg mb h₀) (hk : cs.kind = .function) (hd : A.depth + d < recursionLimit) (hu : A.units + 200 * d < cLine)
    (h : ∀ (r : Value) (nw : List (Addr × Obj)) (h' : Heap) (tk' : Nat), Fr h₀ L h' m → News h₀ L h' nw → P r nw → Q r { s with heap := h', toks := tk' })
    (hA1 : A.handled = none := by rfl) (hA2 : A.frames = some (envX cn cs L a ccd cl :: outer) := by rfl) :
    wpAny (model PySem.Challenge.rw_nz0305_01.row.prog w) A (PySem.call (.ref f) vs) Q E s := by
  rw [around_is hA1 hA2]
  exact C mean mg mb A.depth A.units A.guards cn cs a ccd cl outer A₀ base h₀ L m s Q E B F X N T hk hd hu h
theorem say_words12 : True := by
  k_with "e_news" => (first | k_asm | (refine' cb_drop ?cbN ?cbS; (case cbN => assumption); (case cbS => kcj_all)))
  k_with "e_enter" => (refine wpAny_call ?_; k_dflt cell_enter)
  k_with "e_con" => ((case k1 => k_asm); (case k2 => k_asm); (case k3 => k_asm); (case k4 => k_asm); (case k5 => k_asm); (case k6 => first | exact rfl | assumption); (case k7 => first | ((simp only [depth_under_make, depth_under_kw, depth_in1, depth_deeper, depth_caller, ktrTop]); omega) | ktr_room); (case k8 => first | ((simp only [units_under_make, units_in1, units_deeper, Around.mark_units, units_caller, ktrTop]); omega) | ktr_units); k_whole)
  k_with "e_con2" => ((case k1 => k_asm); (case k3 => k_asm); (case k5 => k_asm); (case k6 => first | exact rfl | assumption); (case k7 => first | ((simp only [depth_under_make, depth_under_kw, depth_in1, depth_deeper, depth_caller, ktrTop]); omega) | ktr_room); (case k8 => first | ((simp only [units_under_make, units_in1, units_deeper, Around.mark_units, units_caller, ktrTop]); omega) | ktr_units); k_whole)
  trivial
/-- the fields of a reader -/
abbrev rdEs (x1 x2 x3 : Int) (k1 k2 k3 : Tok) (T : Addr) (i : Int) (u : Tok) (ln : Int) (v : Tok) : List DictEntry := [⟨x1, .str (PySem.Str.ofString "tokens") k1, .ref T⟩, ⟨x2, .str (PySem.Str.ofString "at") k2, .int i u⟩, ⟨x3, .str (PySem.Str.ofString "length") k3, .int ln v⟩]
section
local macro_rules | `(tactic| walk1) => `(tactic| (k_unmd; k_unfold; (try dsimp only)))
local macro_rules | `(tactic| k_get) => `(tactic| assumption)
local macro_rules | `(tactic| k_upd) => `(tactic| (k_extra "upd"))
theorem wordF121 : True := by
  k_with "subscriptTail~" => (k_here; k_dflt (refine' item_at ?a.wF121 ?b.wF121 ?c.wF121 ?d.wF121 ?_; (case a => exact News.isList (by k_asm) (by k_mem)); (case b => k_extra "it_b"); (case c => k_extra "it_c"); (case d => k_extra "it_d")))
  trivial
theorem wordF122 : True := by
  k_with "subscriptTail Name Slice ref ref~" => (k_here; k_dflt (refine' tuple_two ?k1.wF122 ?k2.wF122 ?k3.wF122 ?_; (case k1 => k_asm); (case k2 => k_asm); (case k3 => k_mem)); intro D' h' F' N' l1; (try k_lt l1); (try k_fold))
  trivial
theorem wordF123 : True := by
  k_with "compareOp NotEq ref ref~" => (k_here; k_dflt (refine' ne_pairs ?k1.wF123 ?k2.wF123 ?k3.wF123 ?k4.wF123 ?k5.wF123 ?k6.wF123 ?_; (case k1 => k_asm); (case k2 => k_mem); (case k3 => k_mem); (case k4 => exact rfl); (case k5 => k_extra "cs_eq"); (case k6 => first | ((simp only [units_under_make, units_in1, units_deeper, Around.mark_units, units_caller, ktrTop]); omega) | ktr_units)); k_extra "restore"; (try k_fold))
  trivial
theorem wordF124 : True := by
  k_with "call builtin:len~" => (k_here; (with_reducible show PySem.wpAny _ _ (PySem.call (Value.builtin "len") [Value.ref _]) _ _ _); k_dflt (refine' len_vs ?a.wF124 ?b.wF124 ?_; (case a => exact News.isList (by k_asm) (by k_mem)); (case b => assumption)); intro t9 k9)
  trivial
/-- DateReader.skip at a sign that stands there -/
theorem con_skip {w : World} {rx rd T D : Addr} {x1 x2 x3 : Int} {k1 k2 k3 u v : Tok} {ln i : Int} {refs : List Value} {n : Nat} {a : Int} {xt : Tok} {xb : Array UInt8} {xu xv : Tok} {sb : Array UInt8} {su : Tok} {news : List (Addr × Obj)} {nw : Tok → List (Addr × Obj)}
   (m1 : (rx, instObj 317 rd) ∈ news) (m2 : (rd, dictOf (rdEs x1 x2 x3 k1 k2 k3 T i u ln v) 3) ∈ news) (m3 : (T, listOf refs.toArray n) ∈ news) (m4 : (D, ({ cls := .type "tuple", data := .seq #[.str (PySem.Str.ofString "sign") xt, .bytes xb xu, .int a xv] } : Obj)) ∈ news)
   (U : ∀ u', Upd rd (dictOf (rdEs x1 x2 x3 k1 k2 k3 T i u ln v) 3) (dictOf (rdEs x1 x2 x3 k1 k2 k3 T (i + 1) u' ln v) 3) news (nw u'))
   (hi0 : 0 ≤ i) (hi1 : i < 1000) (hi : i < refs.length) (hl : refs.length < 1000) (hr : refs[i.toNat]? = some (.ref D)) (hx : KBw.bInts xb = KBw.bInts sb) :
   ConU 3 w 300 [.ref rx, .bytes sb su] news (fun r nw' => r = .bool true ∧ ∃ u', nw' = nw u') := by
  unfold ConU
  k_fill
  w_on
  intro mean mg mb dp un gd cn cs aa ccd cl outer A₀ base h₀ L m s Q E B F X' N T' hk hd hu hret
  k_with "it_b" => assumption
  k_with "it_c" => omega
  k_with "it_d" => assumption
  k_with "cs_eq" => assumption
  k_with "upd" => exact U _
  k_with "restore" => (with_reducible rename News _ _ _ _ => hN8; have hN9 := cb_drop hN8 (fun p hp => List.Mem.tail _ (List.Mem.tail _ hp)); clear hN8)
  k_extra "e_enter"
  k_steps
  exact hret _ _ _ _ (by k_asm) (by k_asm) ⟨rfl, _, rfl⟩
/-- DateReader.need of what is right -/
theorem con_need {w : World} {rx rd T : Addr} {x1 x2 x3 : Int} {k1 k2 k3 u v : Tok} {ln i : Int} {wt : PySem.Str} {wu : Tok} {bb : Bool} {news : List (Addr × Obj)} {nw : Tok → List (Addr × Obj)}
   (m1 : (rx, instObj 317 rd) ∈ news) (m2 : (rd, dictOf (rdEs x1 x2 x3 k1 k2 k3 T i u ln v) 3) ∈ news)
   (U : ∀ u', Upd rd (dictOf (rdEs x1 x2 x3 k1 k2 k3 T i u ln v) 3) (dictOf (rdEs x1 x2 x3 k1 k2 k3 T (i + 1) u' ln v) 3) news (nw u')) (hbb : bb = true) :
   ConU 3 w 314 [.ref rx, .bool bb, .str wt wu] news (fun r nw' => r = .none ∧ ∃ u', nw' = nw u') := by
  subst hbb
  unfold ConU
  k_fill
  w_on
  intro mean mg mb dp un gd cn cs aa ccd cl outer A₀ base h₀ L m s Q E B F X' N T' hk hd hu hret
  k_with "upd" => exact U _
  k_extra "e_enter"
  k_steps
  exact hret _ _ _ _ (by k_asm) (by k_asm) ⟨rfl, _, rfl⟩
theorem wordF125 : True := by
  k_with "call ref~" => (k_here; k_dflt (refine' Con.plain (con_is_figures _ _ _ _ ?c1.wF125) ?k1.wF125 ?k2.wF125 ?k3.wF125 ?k4.wF125 ?k5.wF125 ?k6.wF125 ?k7.wF125 ?k8.wF125 ?_; (case c1 => assumption); k_extra "e_con"); intro t9 h9 tk9 F9 N9; (try k_fold))
  trivial
theorem wordF126 : True := by
  k_with "call ref~" => (k_here; k_dflt (refine' Con.plain (con_atom ?m1.wF126 ?m2.wF126 ?m3.wF126 ?m4.wF126 ?g1.wF126 ?g2.wF126 ?b1.wF126 ?b2.wF126 ?b3.wF126 ?b4.wF126 ?hr.wF126 ?hx.wF126 ?hl.wF126 ?ha.wF126) ?k1.wF126 ?k2.wF126 ?k3.wF126 ?k4.wF126 ?k5.wF126 ?k6.wF126 ?k7.wF126 ?k8.wF126 ?_; (case k2 => k_asm); (case k4 => k_asm); (case m1 => k_mem); (case m2 => assumption); (case g1 => exact rfl); (case g2 => exact rfl); (case m3 => k_mem); (case hr => assumption); (case m4 => k_mem); (case b1 => assumption); (case b2 => assumption); (case b3 => assumption); (case b4 => assumption); (case hx => assumption); (case hl => assumption); (case ha => assumption); k_extra "e_con2"); intro t9 h9 tk9 F9 N9; (try k_fold))
  trivial
theorem wordF127 : True := by
  k_with "call builtin:len~" => (k_here; (with_reducible show PySem.wpAny _ _ (PySem.call (Value.builtin "len") [Value.str _ _]) _ _ _); k_dflt (refine' PySem.len_str ?a.wF127 ?_; (case a => omega)))
  trivial
theorem wordF128 : True := by
  k_with "call builtin:int~" => (k_here; k_dflt (refine' KIN.call_text ?a.wF128 ?b.wF128 ?_; (case a => assumption); (case b => assumption)))
  trivial
theorem wordF129 : True := by
  k_with "call type:int~" => (k_here; k_dflt (refine' KIN.call_text ?a.wF129 ?b.wF129 ?_; (case a => assumption); (case b => assumption)))
  trivial
/-- DateReader.number at figures that stand there -/
theorem con_number {w : World} {rx rd T D : Addr} {x1 x2 x3 : Int} {k1 k2 k3 u v : Tok} {ln i : Int} {refs : List Value} {n : Nat} {a : Int} {xt : Tok} {xb : Array UInt8} {xu xv : Tok} {X : PySem.Str} {val lo hi' : Int} {t5 t6 : Tok} {news : List (Addr × Obj)} {nw : Tok → List (Addr × Obj)}
   (m1 : (rx, instObj 317 rd) ∈ news) (m2 : (rd, dictOf (rdEs x1 x2 x3 k1 k2 k3 T i u ln v) 3) ∈ news) (m3 : (T, listOf refs.toArray n) ∈ news) (m4 : (D, ({ cls := .type "tuple", data := .seq #[.str (PySem.Str.ofString "atom") xt, .bytes xb xu, .int a xv] } : Obj)) ∈ news)
   (U : ∀ u', Upd rd (dictOf (rdEs x1 x2 x3 k1 k2 k3 T i u ln v) 3) (dictOf (rdEs x1 x2 x3 k1 k2 k3 T (i + 1) u' ln v) 3) news (nw u'))
   (hi0 : 0 ≤ i) (hi1 : i < 1000) (hi : i < refs.length) (hl : refs.length < 1000) (hr : refs[i.toNat]? = some (.ref D))
   (hx : KBw.bInts xb = KStt.codes X) (hlen : X.cps.size ≤ 1000) (hasc : ∀ k ∈ X.cps.toList, k < 256) (hsz : X.length ≤ 640) (hdg : Digits X) (hv : PySem.intText? X = some val) (hlo : lo ≤ (X.length : Int)) (hhi : (X.length : Int) ≤ hi') :
   ConU 4 w 307 [.ref rx, .int lo t5, .int hi' t6] news (fun r nw' => ∃ P t7 t8 u', r = .ref P ∧ nw' = (P, pairObj (.int val t7) (.int (X.length : Int) t8)) :: nw u' ∧ ∀ p ∈ nw u', p.1 < P) := by
  unfold ConU
  k_fill
  w_on
  intro mean mg mb dp un gd cn cs aa ccd cl outer A₀ base h₀ L m s Q E B F X' N T' hk hd hu hret
  k_with "upd" => exact U _
  k_extra "e_enter"
  k_steps
  with_reducible rename AllLt _ _ => l9
  exact hret _ (_ :: nw _) _ _ (by k_asm) (by k_asm) ⟨_, _, _, _, rfl, rfl, ktn_ltOf l9⟩
end
end Mine
end PartF12
section PartG1
open PySem PySem.W PyProof.Rows PySem.Calls
namespace Mine
theorem forgetG1 : True := by
  k_with_none
  trivial
theorem say_words21 : True := by
  k_with "e_news" => (first | k_asm | (refine' cb_drop ?cbN ?cbS; (case cbN => assumption); (case cbS => kcj_all)))
  k_with "e_enter" => (refine wpAny_call ?_; k_dflt cell_enter)
  k_with "e_con" => ((case k1 => k_asm); (case k2 => k_asm); (case k3 => k_asm); (case k4 => k_asm); (case k5 => k_asm); (case k6 => first | exact rfl | assumption); (case k7 => first | ((simp only [depth_under_make, depth_under_kw, depth_in1, depth_deeper, depth_caller, ktrTop]); omega) | ktr_room); (case k8 => first | ((simp only [units_under_make, units_in1, units_deeper, Around.mark_units, units_caller, ktrTop]); omega) | ktr_units); k_whole)
  k_with "e_con2" => ((case k1 => k_asm); (case k3 => k_asm); (case k5 => k_asm); (case k6 => first | exact rfl | assumption); (case k7 => first | ((simp only [depth_under_make, depth_under_kw, depth_in1, depth_deeper, depth_caller, ktrTop]); omega) | ktr_room); (case k8 => first | ((simp only [units_under_make, units_in1, units_deeper, Around.mark_units, units_caller, ktrTop]); omega) | ktr_units); k_whole)
  trivial
/-- a reader's addresses and what never turns -/
structure RD where
  rx : Addr
  rd : Addr
  T : Addr
  x1 : Int
  x2 : Int
  x3 : Int
  k1 : Tok
  k2 : Tok
  k3 : Tok
  ln : Int
  lv : Tok
  refs : List Value
  n : Nat
def TokAtR (d : RD) (rest : List (Addr × Obj)) (i : Nat) (kind : PySem.Str) (wk : List Int) : Prop :=
  ∃ (D : Addr) (xt : Tok) (xb : Array UInt8) (xu : Tok) (a : Int) (xv : Tok), d.refs[i]? = some (.ref D) ∧ (D, ({ cls := .type "tuple", data := .seq #[.str kind xt, .bytes xb xu, .int a xv] } : Obj)) ∈ rest ∧ KBw.bInts xb = wk
theorem TokAtR.mono {d : RD} {rest rest' : List (Addr × Obj)} {i : Nat} {kind : PySem.Str} {wk : List Int} (h : ∀ p ∈ rest, p ∈ rest') : TokAtR d rest i kind wk → TokAtR d rest' i kind wk
  | ⟨D, xt, xb, xu, a, xv, h1, h2, h3⟩ => ⟨D, xt, xb, xu, a, xv, h1, h _ h2, h3⟩
/-- a text of ASCII signs that is not long -/
def Fits (x : PySem.Str) : Prop := x.cps.size ≤ 1000 ∧ ∀ k ∈ x.cps.toList, k < 256
def t01 : PySem.Str := PySem.Str.ofString "01"
def t02 : PySem.Str := PySem.Str.ofString "02"
def t03 : PySem.Str := PySem.Str.ofString "03"
abbrev tZ : PySem.Str := PySem.Str.ofString "+0000"
/-- the state of a reader over the eleven tokens of a date -/
structure St (d : RD) (N TD TM TY : PySem.Str) (news rest : List (Addr × Obj)) : Prop where
  hx : (d.rx, instObj 317 d.rd) ∈ rest
  hT : (d.T, listOf d.refs.toArray d.n) ∈ rest
  hl : d.refs.length = 11
  a0 : TokAtR d rest 0 (PySem.Str.ofString "atom") (KStt.codes N)
  a1 : TokAtR d rest 1 (PySem.Str.ofString "sign") [44]
  a2 : TokAtR d rest 2 (PySem.Str.ofString "atom") (KStt.codes TD)
  a3 : TokAtR d rest 3 (PySem.Str.ofString "atom") (KStt.codes TM)
  a4 : TokAtR d rest 4 (PySem.Str.ofString "atom") (KStt.codes TY)
  a5 : TokAtR d rest 5 (PySem.Str.ofString "atom") (KStt.codes t01)
  a6 : TokAtR d rest 6 (PySem.Str.ofString "sign") [58]
  a7 : TokAtR d rest 7 (PySem.Str.ofString "atom") (KStt.codes t02)
  a8 : TokAtR d rest 8 (PySem.Str.ofString "sign") [58]
  a9 : TokAtR d rest 9 (PySem.Str.ofString "atom") (KStt.codes t03)
  a10 : TokAtR d rest 10 (PySem.Str.ofString "atom") (KStt.codes tZ)
  hs : ∀ p ∈ news, p ∈ rest
  hne : ∀ p ∈ rest, p.1 ≠ d.rd
theorem St.mono {d : RD} {N TD TM TY : PySem.Str} {news rest rest' : List (Addr × Obj)} (S : St d N TD TM TY news rest) (h : ∀ p ∈ rest, p ∈ rest') (hn : ∀ p ∈ rest', p.1 ≠ d.rd) : St d N TD TM TY news rest' :=
  ⟨h _ S.hx, h _ S.hT, S.hl, S.a0.mono h, S.a1.mono h, S.a2.mono h, S.a3.mono h, S.a4.mono h, S.a5.mono h, S.a6.mono h, S.a7.mono h, S.a8.mono h, S.a9.mono h, S.a10.mono h, fun p hp => h p (S.hs p hp), hn⟩
abbrev rdO (d : RD) (i : Int) (u : Tok) : Addr × Obj := (d.rd, dictOf (rdEs d.x1 d.x2 d.x3 d.k1 d.k2 d.k3 d.T i u d.ln d.lv) 3)
section
variable {w : World} {d : RD} {N TD TM TY : PySem.Str} {news rest : List (Addr × Obj)} {i : Int} {u : Tok}
theorem r_atom {X : PySem.Str} (S : St d N TD TM TY news rest) (h0 : 0 ≤ i) (h1 : i < 11) (K : TokAtR d rest i.toNat (PySem.Str.ofString "atom") (KStt.codes X)) (hX : Fits X) :
    Con 3 w 293 [.ref d.rx] (rdO d i u :: rest) (Pl (.str X)) := by
  obtain ⟨D, xt, xb, xu, a, xv, q1, q2, q3⟩ := K
  exact con_atom (.tail _ S.hx) (.head _) (.tail _ S.hT) (.tail _ q2) rfl rfl h0 (by omega) (by rw [S.hl]; omega) (by rw [S.hl]; omega) q1 q3 hX.1 hX.2
theorem r_skip {sb : Array UInt8} {su : Tok} {c : Int} (S : St d N TD TM TY news rest) (h0 : 0 ≤ i) (h1 : i < 11) (K : TokAtR d rest i.toNat (PySem.Str.ofString "sign") [c]) (hc : KBw.bInts sb = [c]) :
    ConU 3 w 300 [.ref d.rx, .bytes sb su] (rdO d i u :: rest) (fun r nw' => r = .bool true ∧ ∃ u', nw' = rdO d (i + 1) u' :: rest) := by
  obtain ⟨D, xt, xb, xu, a, xv, q1, q2, q3⟩ := K
  exact con_skip (.tail _ S.hx) (.head _) (.tail _ S.hT) (.tail _ q2) (nw := fun u' => rdO d (i + 1) u' :: rest) (fun u' => .head S.hne) h0 (by omega) (by rw [S.hl]; omega) (by rw [S.hl]; omega) q1 (q3.trans hc.symm)
theorem r_need {wt : PySem.Str} {wu : Tok} {bb : Bool} (S : St d N TD TM TY news rest) (hbb : bb = true) :
    ConU 3 w 314 [.ref d.rx, .bool bb, .str wt wu] (rdO d i u :: rest) (fun r nw' => r = .none ∧ ∃ u', nw' = rdO d (i + 1) u' :: rest) :=
  con_need (.tail _ S.hx) (.head _) (nw := fun u' => rdO d (i + 1) u' :: rest) (fun _ => .head S.hne) hbb
theorem r_number {X : PySem.Str} {val lo hi' : Int} {t5 t6 : Tok} (S : St d N TD TM TY news rest) (h0 : 0 ≤ i) (h1 : i < 11) (K : TokAtR d rest i.toNat (PySem.Str.ofString "atom") (KStt.codes X)) (hX : Fits X)
   (hsz : X.length ≤ 640) (hdg : Digits X) (hv : PySem.intText? X = some val) (hlo : lo ≤ (X.length : Int)) (hhi : (X.length : Int) ≤ hi') :
   ConU 4 w 307 [.ref d.rx, .int lo t5, .int hi' t6] (rdO d i u :: rest) (fun r nw' => ∃ P t7 t8 u' rest', r = .ref P ∧ nw' = rdO d (i + 1) u' :: rest' ∧ St d N TD TM TY news rest' ∧ (P, ({ cls := .type "tuple", data := .seq #[.int val t7, .int (X.length : Int) t8] } : Obj)) ∈ rest') := by
  obtain ⟨D, xt, xb, xu, a, xv, q1, q2, q3⟩ := K
  have C : ConU 4 w 307 [.ref d.rx, .int lo t5, .int hi' t6] (rdO d i u :: rest) _ := con_number (.tail _ S.hx) (.head _) (.tail _ S.hT) (.tail _ q2) (nw := fun u' => rdO d (i + 1) u' :: rest) (fun u' => .head S.hne) h0 (by omega) (by rw [S.hl]; omega) (by rw [S.hl]; omega) q1 q3 hX.1 hX.2 hsz hdg hv hlo hhi
  intro mean mg mb dp un gd cn cs a ccd cl outer A₀ base h₀ L m s Q E B F X N T hk hd hu hret
  refine C mean mg mb dp un gd cn cs a ccd cl outer A₀ base h₀ L m s Q E B F X N T hk hd hu fun r nw h' tk' F' N' P' => ?_
  obtain ⟨P, t7, t8, u', rfl, rfl, O⟩ := P'
  refine hret _ (rdO d (i + 1) u' :: (P, _) :: rest) h' tk' F' (cb_drop N' fun p hp => ?_) ⟨P, t7, t8, u', _, rfl, rfl, S.mono (fun p hp => .tail _ hp) fun p hp => ?_, .head _⟩
  · rcases List.mem_cons.mp hp with rfl | hp
    · exact .tail _ (.head _)
    · rcases List.mem_cons.mp hp with rfl | hp
      · exact .head _
      · exact .tail _ (.tail _ hp)
  · rcases List.mem_cons.mp hp with rfl | hp
    · exact Nat.ne_of_gt (O (rdO d (i + 1) u') (.head _))
    · exact S.hne p hp
end
section
local macro_rules | `(tactic| walk1) => `(tactic| (k_unmd; k_unfold; (try dsimp only)))
local macro_rules | `(tactic| k_get) => `(tactic| assumption)
theorem wordG11 : True := by
  k_with "subscriptTail~" => (k_here; k_dflt (refine' item_at ?a.wG11 ?b.wG11 ?c.wG11 ?d.wG11 ?_; (case a => exact News.isList (by k_asm) (by k_mem)); (case b => k_extra "it_b"); (case c => k_extra "it_c"); (case d => k_extra "it_d")))
  trivial
theorem wordG12 : True := by
  k_with "call builtin:len~" => (k_here; (with_reducible show PySem.wpAny _ _ (PySem.call (Value.builtin "len") [Value.ref _]) _ _ _); k_dflt (refine' len_vs ?a.wG12 ?b.wG12 ?_; (case a => exact News.isList (by k_asm) (by k_mem)); (case b => assumption)); intro t9 k9)
  trivial
theorem con_place {w : World} {rx rd T D : Addr} {x1 x2 x3 : Int} {k1 k2 k3 u v : Tok} {ln i : Int} {refs : List Value} {n : Nat} {kd : PySem.Str} {a : Int} {xt : Tok} {xb : Array UInt8} {xu xv : Tok} {news : List (Addr × Obj)}
   (m1 : (rx, instObj 317 rd) ∈ news) (m2 : (rd, dictOf (rdEs x1 x2 x3 k1 k2 k3 T i u ln v) 3) ∈ news) (m3 : (T, listOf refs.toArray n) ∈ news) (m4 : (D, ({ cls := .type "tuple", data := .seq #[.str kd xt, .bytes xb xu, .int a xv] } : Obj)) ∈ news)
   (hi0 : 0 ≤ i) (hi1 : i < 1000) (hi : i < refs.length) (hl : refs.length < 1000) (hr : refs[i.toNat]? = some (.ref D)) : Con 3 w 288 [.ref rx] news (fun r tl => tl = [] ∧ ∃ a t, r = .int a t) := by
  unfold Con
  k_fill
  w_on
  intro mean mg mb dp un gd cn cs aa ccd cl outer A₀ base h₀ L m s Q E B F X' N T' hk hd hu hret
  k_with "it_b" => assumption
  k_with "it_c" => omega
  k_with "it_d" => assumption
  k_extra "e_enter"
  k_steps
  exact hret _ [] _ _ (by k_asm) (by k_extra "e_news") (fun _ _ _ h => nomatch h) ⟨rfl, _, _, rfl⟩
theorem r_place {w : World} {d : RD} {N TD TM TY : PySem.Str} {news rest : List (Addr × Obj)} {i : Int} {u : Tok} {kd : PySem.Str} {wk : List Int} (S : St d N TD TM TY news rest) (h0 : 0 ≤ i) (h1 : i < 11) (K : TokAtR d rest i.toNat kd wk) :
    Con 3 w 288 [.ref d.rx] (rdO d i u :: rest) (fun r tl => tl = [] ∧ ∃ a t, r = .int a t) := by
  obtain ⟨D, xt, xb, xu, a, xv, q1, q2, q3⟩ := K
  exact con_place (.tail _ S.hx) (.head _) (.tail _ S.hT) (.tail _ q2) h0 (by omega) (by rw [S.hl]; omega) (by rw [S.hl]; omega) q1
end
end Mine
end PartG1
section PartG2
open PySem PySem.W PyProof.Rows PySem.Calls
namespace Mine
theorem forgetG2 : True := by
  k_with_none
  trivial
theorem say_words22 : True := by
  k_with "e_news" => (first | k_asm | (refine' cb_drop ?cbN ?cbS; (case cbN => assumption); (case cbS => kcj_all)))
  k_with "e_enter" => (refine wpAny_call ?_; k_dflt cell_enter)
  k_with "e_con" => ((case k1 => k_asm); (case k2 => k_asm); (case k3 => k_asm); (case k4 => k_asm); (case k5 => k_asm); (case k6 => first | exact rfl | assumption); (case k7 => first | ((simp only [depth_under_make, depth_under_kw, depth_in1, depth_deeper, depth_caller, ktrTop]); omega) | ktr_room); (case k8 => first | ((simp only [units_under_make, units_in1, units_deeper, Around.mark_units, units_caller, ktrTop]); omega) | ktr_units); k_whole)
  k_with "e_con2" => ((case k1 => k_asm); (case k3 => k_asm); (case k5 => k_asm); (case k6 => first | exact rfl | assumption); (case k7 => first | ((simp only [depth_under_make, depth_under_kw, depth_in1, depth_deeper, depth_caller, ktrTop]); omega) | ktr_room); (case k8 => first | ((simp only [units_under_make, units_in1, units_deeper, Around.mark_units, units_caller, ktrTop]); omega) | ktr_units); k_whole)
  trivial
theorem t01_ok : Digits t01 ∧ PySem.intText? t01 = some 1 ∧ Fits t01 ∧ (t01.length : Int) = 2 := by unfold Digits Fits; decide +kernel
theorem t02_ok : Digits t02 ∧ PySem.intText? t02 = some 2 ∧ Fits t02 ∧ (t02.length : Int) = 2 := by unfold Digits Fits; decide +kernel
theorem t03_ok : Digits t03 ∧ PySem.intText? t03 = some 3 ∧ Fits t03 ∧ (t03.length : Int) = 2 := by unfold Digits Fits; decide +kernel
theorem swap_head {α : Type} {x y : α} {l : List α} : ∀ p ∈ y :: x :: l, p ∈ x :: y :: l := fun p hp => by
  rcases List.mem_cons.mp hp with rfl | hp
  · exact .tail _ (.head _)
  · rcases List.mem_cons.mp hp with rfl | hp
    · exact .head _
    · exact .tail _ (.tail _ hp)
theorem St.push {d : RD} {N TD TM TY : PySem.Str} {news rest : List (Addr × Obj)} {D : Addr} {o : Obj} (S : St d N TD TM TY news rest) (h : d.rd < D) : St d N TD TM TY news ((D, o) :: rest) :=
  S.mono (fun _ hp => .tail _ hp) fun p hp => by
    rcases List.mem_cons.mp hp with rfl | hp
    · exact Nat.ne_of_gt h
    · exact S.hne p hp
theorem tZ_ok : Fits tZ := by unfold Fits; decide +kernel
section
local macro_rules | `(tactic| walk1) => `(tactic| (k_unmd; k_unfold; (try dsimp only)))
local macro_rules | `(tactic| k_get) => `(tactic| assumption)
local macro_rules | `(tactic| k_mem) => `(tactic| first | assumption | exact List.Mem.tail _ (by assumption))
theorem wordG21 : True := by
  k_with "call ref~" => (k_here; k_dflt (refine' ConU.use (r_skip (c := 58) ?S.wG21 ?b1.wG21 ?b2.wG21 ?K.wG21 ?hc.wG21) ?k1.wG21 ?k2.wG21 ?k3.wG21 ?k4.wG21 ?k5.wG21 ?k6.wG21 ?k7.wG21 ?k8.wG21 ?_; (case k2 => k_asm); (case k4 => k_asm); (case S => assumption); (case b1 => decide); (case b2 => decide); (case K => first | exact (St.a6 (by assumption)) | exact (St.a8 (by assumption))); (case hc => exact rfl); k_extra "e_con2"); k_dflt (k_extra "u_post"); (try k_fold))
  trivial
theorem wordG22 : True := by
  k_with "call ref~" => (k_here; k_dflt (refine' ConU.use (r_number ?S.wG22 ?b1.wG22 ?b2.wG22 ?K.wG22 ?hX.wG22 ?hz.wG22 ?hdg.wG22 ?hv.wG22 ?hlo.wG22 ?hhi.wG22) ?k1.wG22 ?k2.wG22 ?k3.wG22 ?k4.wG22 ?k5.wG22 ?k6.wG22 ?k7.wG22 ?k8.wG22 ?_; (case k2 => k_asm); (case k4 => k_asm); (case S => assumption); (case b1 => decide); (case b2 => decide); (case K => first | exact (St.a5 (by assumption)) | exact (St.a7 (by assumption)) | exact (St.a9 (by assumption))); (case hX => assumption); (case hdg => assumption); (case hv => assumption); (case hz => omega); (case hlo => omega); (case hhi => omega); k_extra "e_con2"); k_dflt (k_extra "num_post"); (try k_fold))
  trivial
theorem con_read_clock {w : World} {d : RD} {N TD TM TY : PySem.Str} {news rest : List (Addr × Obj)} {u : Tok} (S : St d N TD TM TY news rest) :
   ConU 6 w 335 [.ref d.rx] (rdO d 5 u :: rest) (fun r nw' => ∃ P t7 t8 t9 u' rest', r = .ref P ∧ nw' = rdO d 10 u' :: rest' ∧ St d N TD TM TY news rest' ∧ (P, ({ cls := .type "tuple", data := .seq #[.int 1 t7, .int 2 t8, .int 3 t9] } : Obj)) ∈ rest') := by
  unfold ConU
  k_fill
  w_on
  obtain ⟨a1, a2, a3, a4⟩ := t01_ok
  obtain ⟨b1, b2, b3, b4⟩ := t02_ok
  obtain ⟨c1, c2, c3, c4⟩ := t03_ok
  have m0 : (d.rx, instObj 317 d.rd) ∈ rest := S.hx
  intro mean mg mb dp un gd cn cs aa ccd cl outer A₀ base h₀ L m s Q E B F X' N' T' hk hd hu hret
  k_with "u_post" => (
    intro r9 nw9 h9 tk9 F9 N9 P9
    obtain ⟨q9, u9, p9⟩ := P9
    subst q9
    subst p9)
  k_with "num_post" => (
    intro r9 nw9 h9 tk9 F9 N9 P9
    obtain ⟨D9, t9, u9, v9, rest9, q9, p9, S9, m9⟩ := P9
    subst q9
    subst p9
    have x9 : (d.rx, instObj 317 d.rd) ∈ rest9 := S9.hx)
  k_extra "e_enter"
  k_steps
  rename (_ < _ ∧ AllLt _ _) => l2
  with_reducible rename News _ _ _ _ => hN
  exact hret _ _ _ _ (by k_asm) (cb_drop hN swap_head) ⟨_, _, _, _, _, _, rfl, rfl, (St.push (by assumption) l2.1), .head _⟩
theorem wordG23 : True := by
  k_with "call ref~" => (k_here; k_dflt (refine' Con.plain (con_zone_in _ _ _) ?k1.wG23 ?k2.wG23 ?k3.wG23 ?k4.wG23 ?k5.wG23 ?k6.wG23 ?k7.wG23 ?k8.wG23 ?_; k_extra "e_con"); intro t9 h9 tk9 F9 N9; (try k_fold))
  trivial
theorem wordG24 : True := by
  k_with "call ref~" => (k_here; k_dflt (refine' Con.plain (r_atom (X := tZ) ?S.wG24 ?b1.wG24 ?b2.wG24 ?K.wG24 ?hX.wG24) ?k1.wG24 ?k2.wG24 ?k3.wG24 ?k4.wG24 ?k5.wG24 ?k6.wG24 ?k7.wG24 ?k8.wG24 ?_; (case k2 => k_asm); (case k4 => k_asm); (case S => assumption); (case b1 => decide); (case b2 => decide); (case K => exact (St.a10 (by assumption))); (case hX => exact tZ_ok); k_extra "e_con2"); intro t9 h9 tk9 F9 N9; (try k_fold))
  trivial
theorem wordG25 : True := by
  k_with "call ref~" => (k_here; k_dflt (refine' ConU.use (r_need ?S.wG25 ?hb.wG25) ?k1.wG25 ?k2.wG25 ?k3.wG25 ?k4.wG25 ?k5.wG25 ?k6.wG25 ?k7.wG25 ?k8.wG25 ?_; (case k2 => k_asm); (case k4 => k_asm); (case S => assumption); (case hb => first | exact rfl | exact decide_eq_true (by omega)); k_extra "e_con2"); k_dflt (k_extra "u_post"); (try k_fold))
  trivial
theorem con_read_zone {w : World} {d : RD} {N TD TM TY : PySem.Str} {news rest : List (Addr × Obj)} {u : Tok} (S : St d N TD TM TY news rest) :
   ConU 6 w 342 [.ref d.rx] (rdO d 10 u :: rest) (fun r nw' => (∃ t, r = .int 0 t) ∧ ∃ u', nw' = rdO d 11 u' :: rest) := by
  unfold ConU
  k_fill
  w_on
  have m0 : (d.rx, instObj 317 d.rd) ∈ rest := S.hx
  intro mean mg mb dp un gd cn cs aa ccd cl outer A₀ base h₀ L m s Q E B F X' N' T' hk hd hu hret
  k_with "u_post" => (
    intro r9 nw9 h9 tk9 F9 N9 P9
    obtain ⟨q9, u9, p9⟩ := P9
    subst q9
    subst p9)
  k_extra "e_enter"
  k_steps
  exact hret _ _ _ _ (by k_asm) (by k_asm) ⟨⟨_, rfl⟩, _, rfl⟩
end
end Mine
end PartG2
section PartG3
open PySem PySem.W PyProof.Rows PySem.Calls
namespace Mine
theorem forgetG3 : True := by
  k_with_none
  trivial
theorem say_words23 : True := by
  k_with "e_news" => (first | k_asm | (refine' cb_drop ?cbN ?cbS; (case cbN => assumption); (case cbS => kcj_all)))
  k_with "e_enter" => (refine wpAny_call ?_; k_dflt cell_enter)
  k_with "e_con" => ((case k1 => k_asm); (case k2 => k_asm); (case k3 => k_asm); (case k4 => k_asm); (case k5 => k_asm); (case k6 => first | exact rfl | assumption); (case k7 => first | ((simp only [depth_under_make, depth_under_kw, depth_in1, depth_deeper, depth_caller, ktrTop]); omega) | ktr_room); (case k8 => first | ((simp only [units_under_make, units_in1, units_deeper, Around.mark_units, units_caller, ktrTop]); omega) | ktr_units); k_whole)
  k_with "e_con2" => ((case k1 => k_asm); (case k3 => k_asm); (case k5 => k_asm); (case k6 => first | exact rfl | assumption); (case k7 => first | ((simp only [depth_under_make, depth_under_kw, depth_in1, depth_deeper, depth_caller, ktrTop]); omega) | ktr_room); (case k8 => first | ((simp only [units_under_make, units_in1, units_deeper, Around.mark_units, units_caller, ktrTop]); omega) | ktr_units); k_whole)
  trivial
section
local macro_rules | `(tactic| walk1) => `(tactic| (k_unmd; k_unfold; (try dsimp only)))
local macro_rules | `(tactic| k_room) => `(tactic| ktr_room)
local macro_rules | `(tactic| k_ne) => `(tactic| (refine neN ?_; first | assumption | exact Ne.symm (by assumption)))
local macro_rules | `(tactic| k_all) => `(tactic| exact ne_below (by assumption))
theorem wordG31 : True := by
  k_with "call ref~" => (k_here; k_dflt (refine' Con.use (con_without_comments _ _ _ _ _ ?m1.wG31 ?c1.wG31 ?c2.wG31) ?k1.wG31 ?k2.wG31 ?k3.wG31 ?k4.wG31 ?k5.wG31 ?k6.wG31 ?k7.wG31 ?k8.wG31 ?_; (case k2 => k_asm); (case k4 => k_asm); (case m1 => k_mem); (case c1 => exact Nat.le_of_ble_eq_true rfl); (case c2 => k_extra "wc_all"); k_extra "e_con2"); k_dflt (k_extra "wc_post"); (try k_fold))
  trivial
theorem wordG32 : True := by
  k_with "call ref~" => (k_here; k_dflt (refine' Con.use (con_tokens _ _ _ _ _ _ _ _ _ _ _ _ _ _ ?c1.wG32 ?c2.wG32) ?k1.wG32 ?k2.wG32 ?k3.wG32 ?k4.wG32 ?k5.wG32 ?k6.wG32 ?k7.wG32 ?k8.wG32 ?_; (case c1 => assumption); (case c2 => assumption); k_extra "e_con"); k_dflt (k_extra "tok_post"); (try k_fold))
  trivial
theorem front {α : Type} {x : α} {pre post : List α} : ∀ p ∈ x :: (pre ++ post), p ∈ pre ++ x :: post := fun p hp => by
  rcases List.mem_cons.mp hp with rfl | hp
  · exact List.mem_append.mpr (.inr (.head _))
  · rcases List.mem_append.mp hp with hp | hp
    · exact List.mem_append.mpr (.inl hp)
    · exact List.mem_append.mpr (.inr (.tail _ hp))
theorem rd_post {rx rd T : Addr} {x1 x2 x3 : Int} {k1 k2 k3 u lv : Tok} {ln : Int} {refs : List Value} {n : Nat} {N TD TM TY : PySem.Str} {news rest : List (Addr × Obj)} (S : St ⟨rx, rd, T, x1, x2, x3, k1, k2, k3, ln, lv, refs, n⟩ N TD TM TY news rest) :
    ∃ d u' rest', (.ref rx : Value) = .ref d.rx ∧ (rd, dictOf (rdEs x1 x2 x3 k1 k2 k3 T 0 u ln lv) 3) :: rest = rdO d 0 u' :: rest' ∧ St d N TD TM TY news rest' := ⟨_, _, _, rfl, rfl, S⟩
theorem con_reader (w : World) (b : Array UInt8) (ks : List Int) (p : Int) (N TD TM TY : PySem.Str) (t : Tok) (news : List (Addr × Obj)) (hb : KBw.bInts b = ks)
   (K : DateKs ks p (KStt.codes N) (KStt.codes TD) (KStt.codes TM) (KStt.codes TY) (KStt.codes t01) (KStt.codes t02) (KStt.codes t03) (KStt.codes tZ)) :
   ConU 6 w 317 [.bytes b t] news (fun r nw' => ∃ d u rest, r = .ref d.rx ∧ nw' = rdO d 0 u :: rest ∧ St d N TD TM TY news rest) := by
  unfold ConU
  k_fill
  w_on
  have hlen := K.hlen
  intro mean mg mb dp un gd cn cs aa ccd cl outer A₀ base h₀ L m s Q E B F X' N' T' hk hd hu hret
  k_with "tok_post" => (
    intro r9 tl9 h9 tk9 F9 N9 O9 P9
    obtain ⟨l, D0, D1, D2, D3, D4, D5, D6, D7, D8, D9, D10, ⟨xt0, xb0, xu0, xv0⟩, ⟨xt1, xb1, xu1, xv1⟩, ⟨xt2, xb2, xu2, xv2⟩, ⟨xt3, xb3, xu3, xv3⟩, ⟨xt4, xb4, xu4, xv4⟩, ⟨xt5, xb5, xu5, xv5⟩, ⟨xt6, xb6, xu6, xv6⟩, ⟨xt7, xb7, xu7, xv7⟩, ⟨xt8, xb8, xu8, xv8⟩, ⟨xt9, xb9, xu9, xv9⟩, ⟨xt10, xb10, xu10, xv10⟩, q9, p9, e0, e1, e2, e3, e4, e5, e6, e7, e8, e9, e10⟩ := P9
    subst q9
    subst p9
    simp only [List.cons_append, List.nil_append, tokO, tripObj] at N9
    dsimp only at e0 e1 e2 e3 e4 e5 e6 e7 e8 e9 e10
    have o9 := O9 (_, dictOf _ _) (by k_mem)
    simp only [List.forall_mem_cons] at o9
    obtain ⟨o10, o9, o8, o7, o6, o5, o4, o3, o2, o1, o0, ol, _⟩ := o9
    clear O9)
  k_with "wc_all" => (repeat' (first | exact List.forall_mem_nil _ | refine List.forall_mem_cons.mpr ⟨⟨_, _, _, _, _, _, _, rfl, by k_mem, by decide +kernel⟩, ?_⟩))
  k_with "wc_post" => (
    intro r9 tl9 h9 tk9 F9 N9 O8 P9
    obtain ⟨W9, n9, p9, q9⟩ := P9
    subst q9
    subst p9
    simp only [List.cons_append, List.nil_append] at N9
    have ow := O8 (_, dictOf _ _) (by k_mem) _ (List.Mem.head _)
    clear O8)
  k_here
  k_dflt (refine' call_cls ?k1 ?k2 ?k3 ?k4 ?k5 ?k6 ?_; (case k1 => k_asm); (case k2 => k_asm); (case k3 => k_asm); (case k4 => k_is); (case k5 => k_is); (case k6 => k_is); k_whole; intro x' d' h' F' N' l1 l2; (try k_lt l1); (try k_lt2 l2); (try k_sweep); cell_enter)
  k_steps
  rename News h₀ L _ _ => hN
  have hN2 := cb_drop hN (front (pre := [_, _, _, _, _, _, _, _, _, _, _, _, _, _]))
  simp only [List.cons_append, List.nil_append] at hN2
  refine hret _ _ _ _ (by k_asm) hN2 (rd_post (refs := [.ref D0, .ref D1, .ref D2, .ref D3, .ref D4, .ref D5, .ref D6, .ref D7, .ref D8, .ref D9, .ref D10]) (n := n9) ?_)
  clear hN2 hN
  refine ⟨by k_mem, by k_mem, rfl, ⟨_, _, _, _, _, _, rfl, by k_mem, e0⟩, ⟨_, _, _, _, _, _, rfl, by k_mem, e1⟩, ⟨_, _, _, _, _, _, rfl, by k_mem, e2⟩, ⟨_, _, _, _, _, _, rfl, by k_mem, e3⟩, ⟨_, _, _, _, _, _, rfl, by k_mem, e4⟩, ⟨_, _, _, _, _, _, rfl, by k_mem, e5⟩, ⟨_, _, _, _, _, _, rfl, by k_mem, e6⟩, ⟨_, _, _, _, _, _, rfl, by k_mem, e7⟩, ⟨_, _, _, _, _, _, rfl, by k_mem, e8⟩, ⟨_, _, _, _, _, _, rfl, by k_mem, e9⟩, ⟨_, _, _, _, _, _, rfl, by k_mem, e10⟩, ?_, ?_⟩
  · intro p hp
    repeat (first | exact hp | apply List.mem_cons_of_mem)
  · show ∀ p ∈ (_ : List (Addr × Obj)), p.1 ≠ d'
    repeat' (first | exact ne_below l1 | refine List.forall_mem_cons.mpr ⟨?_, ?_⟩ | exact Ne.symm (by assumption) | exact Nat.ne_of_gt (by assumption))
end
end Mine
end PartG3
section PartG4
open PySem PySem.W PyProof.Rows PySem.Calls
namespace Mine
theorem forgetG4 : True := by
  k_with_none
  trivial
theorem say_words24 : True := by
  k_with "e_news" => (first | k_asm | (refine' cb_drop ?cbN ?cbS; (case cbN => assumption); (case cbS => kcj_all)))
  k_with "e_enter" => (refine wpAny_call ?_; k_dflt cell_enter)
  k_with "e_con" => ((case k1 => k_asm); (case k2 => k_asm); (case k3 => k_asm); (case k4 => k_asm); (case k5 => k_asm); (case k6 => first | exact rfl | assumption); (case k7 => first | ((simp only [depth_under_make, depth_under_kw, depth_in1, depth_deeper, depth_caller, ktrTop]); omega) | ktr_room); (case k8 => first | ((simp only [units_under_make, units_in1, units_deeper, Around.mark_units, units_caller, ktrTop]); omega) | ktr_units); k_whole)
  k_with "e_con2" => ((case k1 => k_asm); (case k3 => k_asm); (case k5 => k_asm); (case k6 => first | exact rfl | assumption); (case k7 => first | ((simp only [depth_under_make, depth_under_kw, depth_in1, depth_deeper, depth_caller, ktrTop]); omega) | ktr_room); (case k8 => first | ((simp only [units_under_make, units_in1, units_deeper, Around.mark_units, units_caller, ktrTop]); omega) | ktr_units); k_whole)
  trivial
/-- what stays of a moment's fields: hashes, keys' and values' tokens -/
structure MD where
  g1 : Int
  g2 : Int
  g3 : Int
  g4 : Int
  g5 : Int
  g6 : Int
  g7 : Int
  k1 : Tok
  k2 : Tok
  k3 : Tok
  k4 : Tok
  k5 : Tok
  k6 : Tok
  k7 : Tok
  t1 : Tok
  t2 : Tok
  t3 : Tok
  t4 : Tok
  t5 : Tok
  t6 : Tok
  t7 : Tok
abbrev momEs (e : MD) (y m d : Int) : List DictEntry := [⟨e.g1, .str (PySem.Str.ofString "year") e.k1, .int y e.t1⟩, ⟨e.g2, .str (PySem.Str.ofString "month") e.k2, .int m e.t2⟩, ⟨e.g3, .str (PySem.Str.ofString "day") e.k3, .int d e.t3⟩, ⟨e.g4, .str (PySem.Str.ofString "hour") e.k4, .int 1 e.t4⟩, ⟨e.g5, .str (PySem.Str.ofString "minute") e.k5, .int 2 e.t5⟩, ⟨e.g6, .str (PySem.Str.ofString "second") e.k6, .int 3 e.t6⟩, ⟨e.g7, .str (PySem.Str.ofString "zone") e.k7, .int 0 e.t7⟩]
def MomOut (y m d : Int) (r : Value) (tl : List (Addr × Obj)) : Prop := ∃ x md e, r = .ref x ∧ tl = [(x, instObj 161 md), (md, dictOf (momEs e y m d) 7)] ∧ md < x
theorem mom_post {x md : Addr} {g1 g2 g3 g4 g5 g6 g7 : Int} {k1 k2 k3 k4 k5 k6 k7 t1 t2 t3 t4 t5 t6 t7 : Tok} {y m d : Int} (h : md < x) :
    MomOut y m d (.ref x) [(x, instObj 161 md), (md, dictOf [⟨g1, .str (PySem.Str.ofString "year") k1, .int y t1⟩, ⟨g2, .str (PySem.Str.ofString "month") k2, .int m t2⟩, ⟨g3, .str (PySem.Str.ofString "day") k3, .int d t3⟩, ⟨g4, .str (PySem.Str.ofString "hour") k4, .int 1 t4⟩, ⟨g5, .str (PySem.Str.ofString "minute") k5, .int 2 t5⟩, ⟨g6, .str (PySem.Str.ofString "second") k6, .int 3 t6⟩, ⟨g7, .str (PySem.Str.ofString "zone") k7, .int 0 t7⟩] 7)] :=
  ⟨x, md, ⟨g1, g2, g3, g4, g5, g6, g7, k1, k2, k3, k4, k5, k6, k7, t1, t2, t3, t4, t5, t6, t7⟩, rfl, rfl, h⟩
theorem mom_sub {a b c : Addr × Obj} {news rest : List (Addr × Obj)} (h : ∀ p ∈ news, p ∈ rest) : ∀ p ∈ [a, b] ++ news, p ∈ a :: b :: c :: rest := fun p hp => by
  rcases List.mem_append.mp hp with hp | hp
  · rcases List.mem_cons.mp hp with hp | hp
    · exact hp ▸ .head _
    · rw [List.mem_singleton.mp hp]; exact .tail _ (.head _)
  · exact .tail _ (.tail _ (.tail _ (h p hp)))
theorem mom_ord {x md : Addr} {o o' : Obj} {news rest : List (Addr × Obj)} (h : ∀ p ∈ news, p ∈ rest) (l : ∀ p ∈ rest, p.1 < md) (l2 : md < x) : ∀ q ∈ news, ∀ p ∈ [(x, o), (md, o')], q.1 ≠ p.1 := fun q hq p hp => by
  have hl := l q (h q hq)
  rcases List.mem_cons.mp hp with hp | hp
  · rw [hp]; exact Nat.ne_of_lt (Nat.lt_trans hl l2)
  · rw [List.mem_singleton.mp hp]; exact Nat.ne_of_lt hl
theorem con_full_year (w : World) (y f : Int) (t u : Tok) (news) (h : f = 4) : Con 2 w 328 [.int y t, .int f u] news (Pl (.int y)) := by
  subst h
  unfold Con
  k_fill
  w_on
  intro mean mg mb dp un gd cn cs a ccd cl outer A₀ base h₀ L m s Q E B F X N T hk hd hu hret
  k_extra "e_enter"
  k_steps
  all_goals (refine ret_int hret (by k_asm) (by k_extra "e_news") rfl)
section
local macro_rules | `(tactic| walk1) => `(tactic| (k_unmd; k_unfold; (try dsimp only)))
local macro_rules | `(tactic| k_get) => `(tactic| assumption)
local macro_rules | `(tactic| k_room) => `(tactic| ktr_room)
local macro_rules | `(tactic| k_mem) => `(tactic| first | assumption | exact List.Mem.tail _ (by assumption))
local macro_rules | `(tactic| k_upd) => `(tactic| exact Upd.head (St.hne (by assumption)))
theorem wordG41 : True := by
  k_with "call ref~" => (k_here; k_dflt (refine' Con.plain (con_is_day_name _ _ _ _ ?c1.wG41) ?k1.wG41 ?k2.wG41 ?k3.wG41 ?k4.wG41 ?k5.wG41 ?k6.wG41 ?k7.wG41 ?k8.wG41 ?_; (case c1 => assumption); k_extra "e_con"); intro t9 h9 tk9 F9 N9; (try k_fold))
  trivial
theorem wordG42 : True := by
  k_with "call ref~" => (k_here; k_dflt (refine' Con.plain (con_month_number _ _ _ _ _ ?c1.wG42 ?c2.wG42) ?k1.wG42 ?k2.wG42 ?k3.wG42 ?k4.wG42 ?k5.wG42 ?k6.wG42 ?k7.wG42 ?k8.wG42 ?_; (case c1 => assumption); (case c2 => assumption); k_extra "e_con"); intro t9 h9 tk9 F9 N9; (try k_fold))
  trivial
theorem wordG43 : True := by
  k_with "call ref~" => (k_here; k_dflt (refine' Con.plain (con_is_day _ _ _ _ _ _ _ _ ?c1.wG43 ?c2.wG43 ?c3.wG43 ?c4.wG43 ?c5.wG43 ?c6.wG43) ?k1.wG43 ?k2.wG43 ?k3.wG43 ?k4.wG43 ?k5.wG43 ?k6.wG43 ?k7.wG43 ?k8.wG43 ?_; (case c1 => omega); (case c2 => omega); (case c3 => omega); (case c4 => omega); (case c5 => omega); (case c6 => assumption); k_extra "e_con"); intro t9 h9 tk9 F9 N9; (try k_fold))
  trivial
theorem wordG44 : True := by
  k_with "call ref~" => (k_here; k_dflt (refine' Con.plain (con_is_time _ _ _ _ _) ?k1.wG44 ?k2.wG44 ?k3.wG44 ?k4.wG44 ?k5.wG44 ?k6.wG44 ?k7.wG44 ?k8.wG44 ?_; k_extra "e_con"); intro t9 h9 tk9 F9 N9; (try k_fold))
  trivial
theorem wordG45 : True := by
  k_with "call ref~" => (k_here; k_dflt (refine' Con.plain (r_atom ?S.wG45 ?b1.wG45 ?b2.wG45 ?K.wG45 ?hX.wG45) ?k1.wG45 ?k2.wG45 ?k3.wG45 ?k4.wG45 ?k5.wG45 ?k6.wG45 ?k7.wG45 ?k8.wG45 ?_; (case k2 => k_asm); (case k4 => k_asm); (case S => assumption); (case b1 => decide); (case b2 => decide); (case K => first | exact (St.a0 (by assumption)) | exact (St.a3 (by assumption))); (case hX => assumption); k_extra "e_con2"); intro t9 h9 tk9 F9 N9; (try k_fold))
  trivial
theorem wordG46 : True := by
  k_with "call ref~" => (k_here; k_dflt (refine' Con.use (r_place ?S.wG46 ?b1.wG46 ?b2.wG46 ?K.wG46) ?k1.wG46 ?k2.wG46 ?k3.wG46 ?k4.wG46 ?k5.wG46 ?k6.wG46 ?k7.wG46 ?k8.wG46 ?_; (case k2 => k_asm); (case k4 => k_asm); (case S => assumption); (case b1 => decide); (case b2 => decide); (case K => first | exact (St.a2 (by assumption)) | exact (St.a5 (by assumption))); k_extra "e_con2"); k_dflt (k_extra "pl_post"); (try k_fold))
  trivial
theorem wordG47 : True := by
  k_with "call ref~" => (k_here; k_dflt (refine' ConU.use (r_skip (c := 44) ?S.wG47 ?b1.wG47 ?b2.wG47 ?K.wG47 ?hc.wG47) ?k1.wG47 ?k2.wG47 ?k3.wG47 ?k4.wG47 ?k5.wG47 ?k6.wG47 ?k7.wG47 ?k8.wG47 ?_; (case k2 => k_asm); (case k4 => k_asm); (case S => assumption); (case b1 => decide); (case b2 => decide); (case K => exact (St.a1 (by assumption))); (case hc => exact rfl); k_extra "e_con2"); k_dflt (k_extra "u_post"); (try k_fold))
  trivial
theorem wordG48 : True := by
  k_with "call ref~" => (k_here; k_dflt (refine' ConU.use (r_number ?S.wG48 ?b1.wG48 ?b2.wG48 ?K.wG48 ?hX.wG48 ?hz.wG48 ?hdg.wG48 ?hv.wG48 ?hlo.wG48 ?hhi.wG48) ?k1.wG48 ?k2.wG48 ?k3.wG48 ?k4.wG48 ?k5.wG48 ?k6.wG48 ?k7.wG48 ?k8.wG48 ?_; (case k2 => k_asm); (case k4 => k_asm); (case S => assumption); (case b1 => decide); (case b2 => decide); (case K => first | exact (St.a2 (by assumption)) | exact (St.a4 (by assumption))); (case hX => assumption); (case hdg => assumption); (case hv => assumption); (case hz => omega); (case hlo => omega); (case hhi => omega); k_extra "e_con2"); k_dflt (k_extra "num_post"); (try k_fold))
  trivial
theorem wordG49 : True := by
  k_with "call ref~" => (k_here; k_dflt (refine' ConU.use (r_need ?S.wG49 ?hb.wG49) ?k1.wG49 ?k2.wG49 ?k3.wG49 ?k4.wG49 ?k5.wG49 ?k6.wG49 ?k7.wG49 ?k8.wG49 ?_; (case k2 => k_asm); (case k4 => k_asm); (case S => assumption); (case hb => first | exact rfl | exact decide_eq_true (by omega)); k_extra "e_con2"); k_dflt (k_extra "u_post"); (try k_fold))
  trivial
theorem wordG410 : True := by
  k_with "call ref~" => (k_here; k_dflt (refine' ConU.use (con_read_clock ?S.wG410) ?k1.wG410 ?k2.wG410 ?k3.wG410 ?k4.wG410 ?k5.wG410 ?k6.wG410 ?k7.wG410 ?k8.wG410 ?_; (case k2 => k_asm); (case k4 => k_asm); (case S => assumption); k_extra "e_con2"); k_dflt (k_extra "clk_post"); (try k_fold))
  trivial
theorem wordG411 : True := by
  k_with "call ref~" => (k_here; k_dflt (refine' ConU.use (con_read_zone ?S.wG411) ?k1.wG411 ?k2.wG411 ?k3.wG411 ?k4.wG411 ?k5.wG411 ?k6.wG411 ?k7.wG411 ?k8.wG411 ?_; (case k2 => k_asm); (case k4 => k_asm); (case S => assumption); k_extra "e_con2"); k_dflt (k_extra "z_post"); (try k_fold))
  trivial
theorem wordG412 : True := by
  k_with "call ref~" => (k_here; k_dflt (refine' ConU.use (con_reader _ _ _ _ _ _ _ _ _ _ ?c1.wG412 ?c2.wG412) ?k1.wG412 ?k2.wG412 ?k3.wG412 ?k4.wG412 ?k5.wG412 ?k6.wG412 ?k7.wG412 ?k8.wG412 ?_; (case k2 => k_asm); (case k4 => k_asm); (case c1 => assumption); (case c2 => assumption); k_extra "e_con2"); k_dflt (k_extra "rd_post"); (try k_fold))
  trivial
theorem wordG413 : True := by
  k_with "call ref~" => (k_here; k_dflt (refine' Con.plain (con_full_year _ _ _ _ _ _ ?c1.wG413) ?k1.wG413 ?k2.wG413 ?k3.wG413 ?k4.wG413 ?k5.wG413 ?k6.wG413 ?k7.wG413 ?k8.wG413 ?_; (case c1 => assumption); k_extra "e_con"); intro t9 h9 tk9 F9 N9; (try k_fold))
  trivial
theorem wordG414 : True := by
  k_with "eval Call~" => (k_here; (with_reducible show wpAny _ _ (eval (Expr.Call (Expr.Name (PySem.Str.ofString _) _) _ _ _) _) _ _ _); k_dflt (refine Call_ ?_))
  trivial
theorem wordG415 : True := by
  k_with "call builtin:len~" => (k_here; (with_reducible show PySem.wpAny _ _ (PySem.call (Value.builtin "len") [Value.ref _]) _ _ _); k_dflt (refine' len_vs ?a.wG415 ?b.wG415 ?_; (case a => exact News.isList (by k_asm) (by k_mem)); (case b => omega)); intro t9 k9)
  trivial
theorem con_read_date (w : World) (b : Array UInt8) (ks : List Int) (p : Int) (N TD TM TY : PySem.Str) (jm : Nat) (d y : Int) (t : Tok) (news : List (Addr × Obj)) (hb : KBw.bInts b = ks)
   (K : DateKs ks p (KStt.codes N) (KStt.codes TD) (KStt.codes TM) (KStt.codes TY) (KStt.codes t01) (KStt.codes t02) (KStt.codes t03) (KStt.codes tZ))
   (hN : N ∈ dayNames) (hM : jm < 12) (hTM : monNames[jm]? = some TM) (fN : Fits N) (fD : Fits TD) (fM : Fits TM) (fY : Fits TY)
   (dD : Digits TD) (vD : PySem.intText? TD = some d) (lD : 1 ≤ (TD.length : Int) ∧ (TD.length : Int) ≤ 2) (dY : Digits TY) (vY : PySem.intText? TY = some y) (lY : (TY.length : Int) = 4)
   (hy1 : 1 ≤ y) (hy2 : y ≤ 9999) (hd1 : 1 ≤ d) (hd2 : d ≤ mlen y ((jm : Int) + 1)) :
   Con 10 w 349 [.bytes b t] news (MomOut y ((jm : Int) + 1) d) := by
  unfold Con
  k_fill
  w_on
  obtain ⟨lD1, lD2⟩ := lD
  intro mean mg mb dp un gd cn cs aa ccd cl outer A₀ base h₀ L m s Q E B F X' N' T' hk hd hu hret
  k_with "rd_post" => (
    intro r9 nw9 h9 tk9 F9 N9 P9
    obtain ⟨d9, u9, rest9, q9, p9, S9⟩ := P9
    subst q9
    subst p9
    have x9 : (d9.rx, instObj 317 d9.rd) ∈ rest9 := S9.hx
    have xT9 := S9.hT
    have hl9 := S9.hl)
  k_with "u_post" => (
    intro r9 nw9 h9 tk9 F9 N9 P9
    obtain ⟨q9, u9, p9⟩ := P9
    subst q9
    subst p9)
  k_with "z_post" => (
    intro r9 nw9 h9 tk9 F9 N9 P9
    obtain ⟨⟨w9, q9⟩, u9, p9⟩ := P9
    subst q9
    subst p9)
  k_with "pl_post" => (
    intro r9 tl9 h9 tk9 F9 N9 O9 P9
    obtain ⟨q9, u9, v9, p9⟩ := P9
    subst q9
    subst p9
    simp only [List.nil_append] at N9
    clear O9)
  k_with "num_post" => (
    intro r9 nw9 h9 tk9 F9 N9 P9
    obtain ⟨D9, t9, u9, v9, rest9, q9, p9, S9, m9⟩ := P9
    subst q9
    subst p9
    have x9 := S9.hx
    have xT9 := S9.hT)
  k_with "clk_post" => (
    intro r9 nw9 h9 tk9 F9 N9 P9
    obtain ⟨D9, t9, u9, w9, v9, rest9, q9, p9, S9, m9⟩ := P9
    subst q9
    subst p9
    have x9 := S9.hx
    have xT9 := S9.hT)
  k_extra "e_enter"
  k_steps
  with_reducible rename News _ _ _ _ => hN
  rename (_ < _ ∧ AllLt _ _) => l1
  rename St _ _ _ _ _ _ _ => S8
  exact hret _ [_, _] _ _ (by k_asm) (cb_drop hN (mom_sub S8.hs)) (mom_ord S8.hs (ktn_ltOf l1.2) (by assumption)) (mom_post (by assumption))
end
end Mine
end PartG4
section PartH1
open PySem PySem.W PyProof.Rows PySem.Calls
namespace Mine
theorem forgetH1 : True := by
  k_with_none
  trivial
theorem say_words31 : True := by
  k_with "e_news" => (first | k_asm | (refine' cb_drop ?cbN ?cbS; (case cbN => assumption); (case cbS => kcj_all)))
  k_with "e_enter" => (refine wpAny_call ?_; k_dflt cell_enter)
  k_with "e_con" => ((case k1 => k_asm); (case k2 => k_asm); (case k3 => k_asm); (case k4 => k_asm); (case k5 => k_asm); (case k6 => first | exact rfl | assumption); (case k7 => first | ((simp only [depth_under_make, depth_under_kw, depth_in1, depth_deeper, depth_caller, ktrTop]); omega) | ktr_room); (case k8 => first | ((simp only [units_under_make, units_in1, units_deeper, Around.mark_units, units_caller, ktrTop]); omega) | ktr_units); k_whole)
  k_with "e_con2" => ((case k1 => k_asm); (case k3 => k_asm); (case k5 => k_asm); (case k6 => first | exact rfl | assumption); (case k7 => first | ((simp only [depth_under_make, depth_under_kw, depth_in1, depth_deeper, depth_caller, ktrTop]); omega) | ktr_room); (case k8 => first | ((simp only [units_under_make, units_in1, units_deeper, Around.mark_units, units_caller, ktrTop]); omega) | ktr_units); k_whole)
  trivial
/-- str(number) with noughts ahead -/
def padT (n wd : Int) : PySem.Str := PySem.Txt.mul (PySem.Str.ofString "0") (wd - ((PySem.Str.ofString (toString n)).length : Int)) ++ PySem.Str.ofString (toString n)
theorem con_padded (w : World) (n wd : Int) (X : PySem.Str) (t u : Tok) (news) (h0 : 0 ≤ n) (h1 : n < 10000) (h2 : 0 ≤ wd) (h3 : wd ≤ 4) (hX : padT n wd = X) : Con 2 w 238 [.int n t, .int wd u] news (Pl (.str X)) := by
  subst hX
  unfold Con
  k_fill
  w_on
  intro mean mg mb dp un gd cn cs a ccd cl outer A₀ base h₀ L m s Q E B F X N T hk hd hu hret
  k_extra "e_enter"
  k_steps
  exact ret_str hret (by k_asm) (by k_extra "e_news") rfl
theorem pad_0 : padT 0 2 = PySem.Str.ofString "00" := by decide +kernel
theorem pad_1 : padT 1 2 = PySem.Str.ofString "01" := by decide +kernel
theorem pad_2 : padT 2 2 = PySem.Str.ofString "02" := by decide +kernel
theorem pad_3 : padT 3 2 = PySem.Str.ofString "03" := by decide +kernel
section
local macro_rules | `(tactic| walk1) => `(tactic| (k_unmd; k_unfold; (try dsimp only)))
theorem wordH11 : True := by
  k_with "eval Call~" => (k_here; (with_reducible show wpAny _ _ (eval (Expr.Call (Expr.Name (PySem.Str.ofString _) _) _ _ _) _) _ _ _); k_dflt (refine Call_ ?_))
  trivial
theorem wordH12 : True := by
  k_with "call ref~" => (k_here; k_dflt (refine' Con.plain (con_padded _ _ _ _ _ _ _ ?c1.wH12 ?c2.wH12 ?c3.wH12 ?c4.wH12 ?c5.wH12) ?k1.wH12 ?k2.wH12 ?k3.wH12 ?k4.wH12 ?k5.wH12 ?k6.wH12 ?k7.wH12 ?k8.wH12 ?_; (case c5 => first | exact pad_0 | exact pad_1 | exact pad_2 | exact pad_3); (case c1 => decide); (case c2 => decide); (case c3 => decide); (case c4 => decide); k_extra "e_con"); intro t9 h9 tk9 F9 N9; (try k_fold))
  trivial
theorem con_zone_text (w : World) (t : Tok) (news) : Con 4 w 245 [.int 0 t] news (Pl (.str (PySem.Str.ofString "+0000"))) := by
  unfold Con
  k_fill
  w_on
  intro mean mg mb dp un gd cn cs a ccd cl outer A₀ base h₀ L m s Q E B F X N T hk hd hu hret
  k_extra "e_enter"
  k_steps
  exact ret_str hret (by k_asm) (by k_extra "e_news") (by decide +kernel)
theorem wordH13 : True := by
  k_with "call ref~" => (k_here; k_dflt (refine' Con.plain (con_zone_text _ _ _) ?k1.wH13 ?k2.wH13 ?k3.wH13 ?k4.wH13 ?k5.wH13 ?k6.wH13 ?k7.wH13 ?k8.wH13 ?_; k_extra "e_con"); intro t9 h9 tk9 F9 N9; (try k_fold))
  trivial
theorem wordH14 : True := by
  k_with "exec Assign cons ListComp~" => (k_here; (with_reducible show PySem.wpAny _ _ (PySem.exec (PySem.Stmt.Assign _ (PySem.Expr.ListComp _ [⟨PySem.Expr.Name (PySem.Str.ofString "number") _, _, [], _⟩] _ _) _) _) _ _ _); k_dflt (refine Assign_codesN (fun (k : Int) u => Value.str (padT k 2) u) (F₀ := by k_asm) (by rfl) (by with_unfolding_all rfl) (by with_unfolding_all rfl) (by decide) (by rfl) (by decide) (by rfl) (by rfl) (by rfl) ?_))
  trivial
theorem wordH15 : True := by
  k_with "CodeSrcN~" => (k_here; k_dflt (refine ⟨fun (k : Int) u => Value.int k u, [1, 2, 3], _, _, _, iterN_tuple (.cons (.cons (.cons .nil))), rfl, by k_asm, by k_asm, by k_mem, by decide +kernel, ?turn.wH15, ?fin.wH15⟩); (case' turn => (intro g'; unfold CodeTurnN; intro k' t' I' oI' C' oC' D' m' ys' h' tk' E' hk' hC' hx' F' N' off' ne'; (try dsimp only at hx'); k_extra "pad_b"; (try k_fold))); (case' fin => (unfold CodeFinA; intro ys' D' h' tk' made' F' N' off'; (try k_fold))))
  trivial
theorem wordH16 : True := by
  k_with "CompEnd~" => (k_here; k_dflt (refine LCg.CompEnd.intro (by k_asm) (by k_asm) _ ?sub.wH16 (by assumption) ?st.wH16 ?el.wH16; (case st => k_mem); (case el => exact ⟨rfl, _, rfl⟩); (case sub => kcf_all)))
  trivial
theorem wordH17 : True := by
  k_with "call ref~" => (k_here; (with_reducible rename (_ ∈ [1, 2, 3]) => hk8); k_dflt (refine' Con.plain (con_padded _ _ _ _ _ _ _ ?c1.wH17 ?c2.wH17 ?c3.wH17 ?c4.wH17 ?c5.wH17) ?k1.wH17 ?k2.wH17 ?k3.wH17 ?k4.wH17 ?k5.wH17 ?k6.wH17 ?k7.wH17 ?k8.wH17 ?_; (case c5 => exact rfl); (case c1 => omega); (case c2 => omega); (case c3 => decide); (case c4 => decide); k_extra "e_con"); intro t9 h9 tk9 F9 N9; (try k_fold))
  trivial
theorem wordH18 : True := by
  k_with "call builtin:str.join~" => (k_here; k_dflt ((show PySem.wpAny _ _ (PySem.call (Value.builtin "str.join") [Value.str _ _, Value.ref _]) _ _ _); refine' join_list ?a.wH18 ?b.wH18 ?c.wH18 ?_; (case a => exact News.isList (by k_asm) (by k_mem)); (case b => k_extra "j_strs"); (case c => decide +kernel)); intro t9 k9)
  trivial
theorem three_small : ∀ k ∈ [(1 : Int), 2, 3], 0 ≤ k ∧ k < 10000 := by decide
theorem con_clock_text (w : World) {x md : Addr} {e : MD} {y mo d : Int} {news} : Con 6 w 250 [.ref x] ((x, instObj 161 md) :: (md, dictOf (momEs e y mo d) 7) :: news) (Pl (.str (PySem.Str.ofString "01:02:03 +0000"))) := by
  unfold Con
  k_fill
  w_on
  intro mean mg mb dp un gd cn cs a ccd cl outer A₀ base h₀ L m s Q E B F X N T hk hd hu hret
  k_with "pad_b" => (obtain ⟨kb1, kb2⟩ := three_small _ (by assumption))
  k_with "j_strs" => ((with_reducible rename Made _ _ _ => hM); exact Made.strs hM)
  k_extra "e_enter"
  k_steps
  exact ret_str hret (by k_asm) (by k_extra "e_news") (by decide +kernel)
end
end Mine
end PartH1
section PartP1
open PySem PySem.W PyProof.Rows PySem.Calls
namespace Mine
open NumText
theorem codes_app (a b : PySem.Str) : KStt.codes (a ++ b) = KStt.codes a ++ KStt.codes b := by
  unfold KStt.codes
  rw [KT.app_list, List.map_append]
theorem codes_len (a : PySem.Str) : (KStt.codes a).length = a.length := by
  unfold KStt.codes
  rw [List.length_map, Array.length_toList]; rfl
theorem num_digits {n : Int} (h0 : 0 ≤ n) : AllDigits (PySem.Str.ofString (toString n)).cps.toList := by
  obtain ⟨m, rfl⟩ := Int.eq_ofNat_of_zero_le h0
  intro c hc
  rw [KIN.signs_num] at hc
  obtain ⟨ch, hch, e⟩ := List.mem_map.mp hc
  have r := digit_range (Nat.isDigit_of_mem_toDigits (by decide) (by decide) hch)
  rw [← e]
  exact r
theorem num_one {n : Int} (h0 : 0 ≤ n) : 1 ≤ (PySem.Str.ofString (toString n)).length := by
  obtain ⟨m, rfl⟩ := Int.eq_ofNat_of_zero_le h0
  have h := toDigits_len_ge 10 m
  have e := congrArg List.length (KIN.signs_num m)
  rw [Array.length_toList, List.length_map] at e
  show 1 ≤ (PySem.Str.ofString (toString ((m : Nat) : Int))).cps.size
  omega
theorem one_nought : PySem.Str.ofString "0" = ⟨#[48]⟩ := by decide +kernel
theorem padT_signs (n wd : Int) : (padT n wd).cps.toList = List.replicate (wd - ((PySem.Str.ofString (toString n)).length : Int)).toNat 48 ++ (PySem.Str.ofString (toString n)).cps.toList := by
  unfold padT
  rw [KT.app_list, one_nought, mul_one_list]
theorem padT_len4 {n : Int} (h0 : 0 ≤ n) (h1 : n < 10000) : (padT n 4).length = 4 := by
  have a := toString_length_le (k := 4) h0 (by decide) h1
  have e := congrArg List.length (padT_signs n 4)
  rw [Array.length_toList, List.length_append, List.length_replicate, Array.length_toList] at e
  change (padT n 4).length = _ + (PySem.Str.ofString (toString n)).length at e
  omega
theorem padT_digits {n wd : Int} (h0 : 0 ≤ n) : AllDigits (padT n wd).cps.toList := by
  rw [padT_signs]
  intro c hc
  rcases List.mem_append.mp hc with h | h
  · rw [(List.mem_replicate.mp h).2]; decide
  · exact num_digits h0 c h
theorem val_noughts : ∀ (k : Nat) (l : List Nat), digitsVal (List.replicate k 48 ++ l) = digitsVal l
  | 0, _ => rfl
  | k + 1, l => by
    have := val_noughts k l
    unfold digitsVal at this ⊢
    rw [List.replicate_succ, List.cons_append, List.foldl_cons]
    exact this
theorem padT_val {n : Int} (h0 : 0 ≤ n) (h1 : n < 10000) : PySem.intText? (padT n 4) = some n := by
  have hl := padT_len4 h0 h1
  have hd := padT_digits (wd := 4) h0
  have hne : (padT n 4).cps.toList ≠ [] := fun e => by
    have := congrArg List.length e
    rw [Array.length_toList] at this
    change (padT n 4).length = 0 at this
    omega
  rw [intText_digits hd hne (by omega), padT_signs, val_noughts]
  obtain ⟨m, rfl⟩ := Int.eq_ofNat_of_zero_le h0
  rw [KIN.signs_num, KIN.val_back]
/-- the text of a date -/
def dateT (N TM : PySem.Str) (d y : Int) : PySem.Str := PySem.Txt.join (PySem.Str.ofString " ") [N ++ PySem.Str.ofString ",", PySem.Str.ofString (toString d), TM, padT y 4, PySem.Str.ofString "01:02:03 +0000"]
theorem dateT_eq (N TM : PySem.Str) (d y : Int) : dateT N TM d y = (N ++ PySem.Str.ofString ",") ++ PySem.Str.ofString " " ++ (PySem.Str.ofString (toString d) ++ PySem.Str.ofString " " ++ (TM ++ PySem.Str.ofString " " ++ (padT y 4 ++ PySem.Str.ofString " " ++ PySem.Str.ofString "01:02:03 +0000"))) := by
  unfold dateT
  rw [tjoin_eq]
  rfl
def tailKs : List Int := [48, 49, 58, 48, 50, 58, 48, 51, 32, 43, 48, 48, 48, 48]
theorem dateT_codes (N TM : PySem.Str) (d y : Int) : KStt.codes (dateT N TM d y) = KStt.codes N ++ (44 :: 32 :: (KStt.codes (PySem.Str.ofString (toString d)) ++ 32 :: (KStt.codes TM ++ 32 :: (KStt.codes (padT y 4) ++ 32 :: tailKs)))) := by
  have e1 : KStt.codes (PySem.Str.ofString ",") = [44] := by decide +kernel
  have e2 : KStt.codes (PySem.Str.ofString " ") = [32] := by decide +kernel
  have e3 : KStt.codes (PySem.Str.ofString "01:02:03 +0000") = tailKs := by decide +kernel
  rw [dateT_eq]
  simp only [codes_app, e1, e2, e3, List.append_assoc, List.cons_append, List.nil_append]
theorem atom_mk {pre w post ks : List Int} {a e : Int} (hk : ks = pre ++ (w ++ post)) (ha : a = pre.length) (he : e = pre.length + w.length) (hw : ∀ c ∈ w, atomB c = true) (hp : ∀ c ∈ post.head?, atomB c = false) : AtomRun ks a e ∧ cut ks a e = w := by
  subst hk ha he
  refine ⟨⟨by omega, by omega, ?_, ?_, ?_⟩, ?_⟩
  · simp only [List.length_append]; omega
  · intro i h1 h2
    obtain ⟨n, rfl⟩ := Int.eq_ofNat_of_zero_le (show 0 ≤ i by omega)
    have e : (pre ++ (w ++ post)).getD ((n : Int)).toNat 0 = w.getD (n - pre.length) 0 := by
      rw [List.getD_eq_getElem?_getD, List.getD_eq_getElem?_getD, Int.toNat_natCast, List.getElem?_append_right (by omega), List.getElem?_append_left (by omega)]
    rw [e, List.getD_eq_getElem?_getD, List.getElem?_eq_getElem (by omega)]
    exact hw _ (List.getElem_mem _)
  · intro h
    have e : (pre ++ (w ++ post)).getD ((pre.length : Int) + (w.length : Int)).toNat 0 = post.getD 0 0 := by
      have z : ((pre.length : Int) + (w.length : Int)).toNat = pre.length + w.length := by omega
      rw [List.getD_eq_getElem?_getD, List.getD_eq_getElem?_getD, z, List.getElem?_append_right (by omega), List.getElem?_append_right (by omega)]
      congr 2
      omega
    rw [e]
    cases post with
    | nil => simp at h
    | cons c r => exact hp c rfl
  · unfold cut
    rw [Int.toNat_natCast, List.drop_left]
    have z : ((pre.length : Int) + (w.length : Int)).toNat - pre.length = w.length := by omega
    rw [z, List.take_left]
def isWhite (c : Int) : Prop := c = 9 ∨ c = 32 ∨ c = 10 ∨ c = 13
theorem white_mk {pre w post ks : List Int} {a e : Int} (hk : ks = pre ++ (w ++ post)) (ha : a = pre.length) (he : e = pre.length + w.length) (hw : ∀ c ∈ w, c = 32) (hp : ∀ c ∈ post.head?, ¬ isWhite c) : WhiteRun ks a e := by
  subst hk ha he
  refine ⟨by omega, by omega, ?_, ?_, ?_⟩
  · simp only [List.length_append]; omega
  · intro i h1 h2
    obtain ⟨n, rfl⟩ := Int.eq_ofNat_of_zero_le (show 0 ≤ i by omega)
    have e : (pre ++ (w ++ post)).getD ((n : Int)).toNat 0 = w.getD (n - pre.length) 0 := by
      rw [List.getD_eq_getElem?_getD, List.getD_eq_getElem?_getD, Int.toNat_natCast, List.getElem?_append_right (by omega), List.getElem?_append_left (by omega)]
    rw [e, List.getD_eq_getElem?_getD, List.getElem?_eq_getElem (by omega)]
    exact hw _ (List.getElem_mem _)
  · intro h
    have e : (pre ++ (w ++ post)).getD ((pre.length : Int) + (w.length : Int)).toNat 0 = post.getD 0 0 := by
      have z : ((pre.length : Int) + (w.length : Int)).toNat = pre.length + w.length := by omega
      rw [List.getD_eq_getElem?_getD, List.getD_eq_getElem?_getD, z, List.getElem?_append_right (by omega), List.getElem?_append_right (by omega)]
      congr 2
      omega
    rw [e]
    cases post with
    | nil => simp at h
    | cons c r =>
      have q := hp c rfl
      unfold isWhite at q
      show c ≠ 9 ∧ c ≠ 32 ∧ c ≠ 10 ∧ c ≠ 13
      omega
theorem tok_atom {pre w post ks : List Int} {a e : Int} (hk : ks = pre ++ (w ++ post)) (ha : a = pre.length) (he : e = pre.length + w.length) (hw : ∀ c ∈ w, atomB c = true) (hp : ∀ c ∈ post.head?, atomB c = false) (h1 : 0 < w.length) : TokAt ks (PySem.Str.ofString "atom") w a e := by
  obtain ⟨R, q⟩ := atom_mk hk ha he hw hp
  exact .atom R (by omega) q.symm
theorem tok_sign {pre post ks : List Int} {a e c : Int} (hk : ks = pre ++ (c :: post)) (ha : a = pre.length) (he : e = a + 1) (hc : c = 44 ∨ c = 58) : TokAt ks (PySem.Str.ofString "sign") [c] a e := by
  subst hk ha
  refine .sign (by omega) ?_ ?_ hc he
  · simp only [List.length_append, List.length_cons]; omega
  · rw [List.getD_eq_getElem?_getD, Int.toNat_natCast, List.getElem?_append_right (by omega), Nat.sub_self]; rfl
theorem digit_atom {c : Int} (h : 48 ≤ c ∧ c ≤ 57) : atomB c = true := by
  rw [atomB_eq, if_pos (.inl h)]
theorem atom_not_white {c : Int} (h : atomB c = true) : ¬ isWhite c := by
  intro q
  rcases q with rfl | rfl | rfl | rfl <;> revert h <;> decide +kernel
/-- the tokens of a date's text -/
theorem date_ks (n0 n1 n2 m0 m1 m2 y0 y1 y2 y3 : Int) (wd : List Int) (hn0 : atomB n0 = true) (hn1 : atomB n1 = true) (hn2 : atomB n2 = true) (hm0 : atomB m0 = true) (hm1 : atomB m1 = true) (hm2 : atomB m2 = true)
   (hy0 : atomB y0 = true) (hy1 : atomB y1 = true) (hy2 : atomB y2 = true) (hy3 : atomB y3 = true) (hd : ∀ c ∈ wd, atomB c = true) (hl : wd.length = 1 ∨ wd.length = 2) :
   ∃ p, DateKs ([n0, n1, n2] ++ (44 :: 32 :: (wd ++ 32 :: ([m0, m1, m2] ++ 32 :: ([y0, y1, y2, y3] ++ 32 :: tailKs))))) p [n0, n1, n2] wd [m0, m1, m2] [y0, y1, y2, y3] [48, 49] [48, 50] [48, 51] [43, 48, 48, 48, 48] := by
  have a44 : atomB 44 = false := by decide +kernel
  have a32 : atomB 32 = false := by decide +kernel
  have a58 : atomB 58 = false := by decide +kernel
  have a43 : atomB 43 = true := by decide +kernel
  have a48 : atomB 48 = true := by decide +kernel
  have a49 : atomB 49 = true := by decide +kernel
  have a50 : atomB 50 = true := by decide +kernel
  have a51 : atomB 51 = true := by decide +kernel
  have w44 : ¬ isWhite 44 := by unfold isWhite; omega
  have w58 : ¬ isWhite 58 := by unfold isWhite; omega
  have hs : ∀ {c : Int} {l : List Int}, ¬ isWhite c → ∀ x ∈ (c :: l).head?, ¬ isWhite x := fun h x hx => by cases hx; exact h
  have hb : ∀ {c : Int} {l : List Int}, atomB c = false → ∀ x ∈ (c :: l).head?, atomB x = false := fun h x hx => by cases hx; exact h
  have two : ∀ {c d : Int}, atomB c = true → atomB d = true → ∀ x ∈ [c, d], atomB x = true := fun h k x hx => by
    simp only [List.mem_cons, List.not_mem_nil, or_false] at hx
    rcases hx with rfl | rfl <;> assumption
  have three : ∀ {c d e : Int}, atomB c = true → atomB d = true → atomB e = true → ∀ x ∈ [c, d, e], atomB x = true := fun h k l x hx => by
    simp only [List.mem_cons, List.not_mem_nil, or_false] at hx
    rcases hx with rfl | rfl | rfl <;> assumption
  have nil : ∀ x ∈ ([] : List Int), x = 32 := fun x hx => nomatch hx
  have one : ∀ x ∈ [(32 : Int)], x = 32 := fun x hx => List.mem_singleton.mp hx
  have four : ∀ x ∈ [y0, y1, y2, y3], atomB x = true := fun x hx => by
    simp only [List.mem_cons, List.not_mem_nil, or_false] at hx
    rcases hx with rfl | rfl | rfl | rfl <;> assumption
  have five : ∀ x ∈ [(43 : Int), 48, 48, 48, 48], atomB x = true := by decide +kernel
  have h0 : 0 < wd.length := by omega
  obtain ⟨d0, r, rfl⟩ : ∃ d0 r, wd = d0 :: r := by
    cases wd with
    | nil => simp at h0
    | cons c r => exact ⟨c, r, rfl⟩
  have hd0 := hd d0 (.head _)
  rcases hl with hl | hl
  · have hr : r = [] := by cases r with | nil => rfl | cons c r => simp at hl
    subst hr
    refine ⟨6, ?_⟩
    exact {
      hlen := by show 30 ≤ 1000; decide
      hn := rfl
      hp := by decide
      W0 := white_mk (pre := []) (w := []) rfl rfl rfl nil (hs (atom_not_white hn0))
      T0 := tok_atom (pre := []) (w := [n0, n1, n2]) rfl rfl rfl (three hn0 hn1 hn2) (hb a44) (by show 0 < 3; decide)
      W1 := white_mk (pre := [n0, n1, n2]) (w := []) rfl rfl rfl nil (hs w44)
      T1 := tok_sign (pre := [n0, n1, n2]) rfl rfl rfl (.inl rfl)
      W2 := white_mk (pre := [n0, n1, n2, 44]) (w := [32]) rfl rfl rfl one (hs (atom_not_white hd0))
      T2 := tok_atom (pre := [n0, n1, n2, 44, 32]) (w := [d0]) rfl rfl rfl hd (hb a32) (by show 0 < 1; decide)
      W3 := white_mk (pre := [n0, n1, n2, 44, 32, d0]) (w := [32]) rfl rfl rfl one (hs (atom_not_white hm0))
      T3 := tok_atom (pre := [n0, n1, n2, 44, 32, d0, 32]) (w := [m0, m1, m2]) rfl rfl rfl (three hm0 hm1 hm2) (hb a32) (by show 0 < 3; decide)
      W4 := white_mk (pre := [n0, n1, n2, 44, 32, d0, 32, m0, m1, m2]) (w := [32]) rfl rfl rfl one (hs (atom_not_white hy0))
      T4 := tok_atom (pre := [n0, n1, n2, 44, 32, d0, 32, m0, m1, m2, 32]) (w := [y0, y1, y2, y3]) rfl rfl rfl four (hb a32) (by show 0 < 4; decide)
      W5 := white_mk (pre := [n0, n1, n2, 44, 32, d0, 32, m0, m1, m2, 32, y0, y1, y2, y3]) (w := [32]) rfl rfl rfl one (hs (atom_not_white a48))
      T5 := tok_atom (pre := [n0, n1, n2, 44, 32, d0, 32, m0, m1, m2, 32, y0, y1, y2, y3, 32]) (w := [48, 49]) rfl rfl rfl (two a48 a49) (hb a58) (by show 0 < 2; decide)
      W6 := white_mk (pre := [n0, n1, n2, 44, 32, d0, 32, m0, m1, m2, 32, y0, y1, y2, y3, 32, 48, 49]) (w := []) rfl rfl rfl nil (hs w58)
      T6 := tok_sign (pre := [n0, n1, n2, 44, 32, d0, 32, m0, m1, m2, 32, y0, y1, y2, y3, 32, 48, 49]) rfl rfl rfl (.inr rfl)
      W7 := white_mk (pre := [n0, n1, n2, 44, 32, d0, 32, m0, m1, m2, 32, y0, y1, y2, y3, 32, 48, 49, 58]) (w := []) rfl rfl rfl nil (hs (atom_not_white a48))
      T7 := tok_atom (pre := [n0, n1, n2, 44, 32, d0, 32, m0, m1, m2, 32, y0, y1, y2, y3, 32, 48, 49, 58]) (w := [48, 50]) rfl rfl rfl (two a48 a50) (hb a58) (by show 0 < 2; decide)
      W8 := white_mk (pre := [n0, n1, n2, 44, 32, d0, 32, m0, m1, m2, 32, y0, y1, y2, y3, 32, 48, 49, 58, 48, 50]) (w := []) rfl rfl rfl nil (hs w58)
      T8 := tok_sign (pre := [n0, n1, n2, 44, 32, d0, 32, m0, m1, m2, 32, y0, y1, y2, y3, 32, 48, 49, 58, 48, 50]) rfl rfl rfl (.inr rfl)
      W9 := white_mk (pre := [n0, n1, n2, 44, 32, d0, 32, m0, m1, m2, 32, y0, y1, y2, y3, 32, 48, 49, 58, 48, 50, 58]) (w := []) rfl rfl rfl nil (hs (atom_not_white a48))
      T9 := tok_atom (pre := [n0, n1, n2, 44, 32, d0, 32, m0, m1, m2, 32, y0, y1, y2, y3, 32, 48, 49, 58, 48, 50, 58]) (w := [48, 51]) rfl rfl rfl (two a48 a51) (hb a32) (by show 0 < 2; decide)
      W10 := white_mk (pre := [n0, n1, n2, 44, 32, d0, 32, m0, m1, m2, 32, y0, y1, y2, y3, 32, 48, 49, 58, 48, 50, 58, 48, 51]) (w := [32]) rfl rfl rfl one (hs (atom_not_white a43))
      T10 := tok_atom (pre := [n0, n1, n2, 44, 32, d0, 32, m0, m1, m2, 32, y0, y1, y2, y3, 32, 48, 49, 58, 48, 50, 58, 48, 51, 32]) (w := [43, 48, 48, 48, 48]) (post := []) rfl rfl rfl five (fun _ h => nomatch h) (by show 0 < 5; decide)
      W11 := white_mk (pre := [n0, n1, n2, 44, 32, d0, 32, m0, m1, m2, 32, y0, y1, y2, y3, 32, 48, 49, 58, 48, 50, 58, 48, 51, 32, 43, 48, 48, 48, 48]) (w := []) (post := []) rfl rfl rfl nil (fun _ h => nomatch h) }
  · obtain ⟨d1, rfl⟩ : ∃ d1, r = [d1] := by
      cases r with
      | nil => simp at hl
      | cons c r => cases r with
        | nil => exact ⟨c, rfl⟩
        | cons e q => simp at hl
    refine ⟨7, ?_⟩
    exact {
      hlen := by show 31 ≤ 1000; decide
      hn := rfl
      hp := by decide
      W0 := white_mk (pre := []) (w := []) rfl rfl rfl nil (hs (atom_not_white hn0))
      T0 := tok_atom (pre := []) (w := [n0, n1, n2]) rfl rfl rfl (three hn0 hn1 hn2) (hb a44) (by show 0 < 3; decide)
      W1 := white_mk (pre := [n0, n1, n2]) (w := []) rfl rfl rfl nil (hs w44)
      T1 := tok_sign (pre := [n0, n1, n2]) rfl rfl rfl (.inl rfl)
      W2 := white_mk (pre := [n0, n1, n2, 44]) (w := [32]) rfl rfl rfl one (hs (atom_not_white hd0))
      T2 := tok_atom (pre := [n0, n1, n2, 44, 32]) (w := [d0, d1]) rfl rfl rfl hd (hb a32) (by show 0 < 2; decide)
      W3 := white_mk (pre := [n0, n1, n2, 44, 32, d0, d1]) (w := [32]) rfl rfl rfl one (hs (atom_not_white hm0))
      T3 := tok_atom (pre := [n0, n1, n2, 44, 32, d0, d1, 32]) (w := [m0, m1, m2]) rfl rfl rfl (three hm0 hm1 hm2) (hb a32) (by show 0 < 3; decide)
      W4 := white_mk (pre := [n0, n1, n2, 44, 32, d0, d1, 32, m0, m1, m2]) (w := [32]) rfl rfl rfl one (hs (atom_not_white hy0))
      T4 := tok_atom (pre := [n0, n1, n2, 44, 32, d0, d1, 32, m0, m1, m2, 32]) (w := [y0, y1, y2, y3]) rfl rfl rfl four (hb a32) (by show 0 < 4; decide)
      W5 := white_mk (pre := [n0, n1, n2, 44, 32, d0, d1, 32, m0, m1, m2, 32, y0, y1, y2, y3]) (w := [32]) rfl rfl rfl one (hs (atom_not_white a48))
      T5 := tok_atom (pre := [n0, n1, n2, 44, 32, d0, d1, 32, m0, m1, m2, 32, y0, y1, y2, y3, 32]) (w := [48, 49]) rfl rfl rfl (two a48 a49) (hb a58) (by show 0 < 2; decide)
      W6 := white_mk (pre := [n0, n1, n2, 44, 32, d0, d1, 32, m0, m1, m2, 32, y0, y1, y2, y3, 32, 48, 49]) (w := []) rfl rfl rfl nil (hs w58)
      T6 := tok_sign (pre := [n0, n1, n2, 44, 32, d0, d1, 32, m0, m1, m2, 32, y0, y1, y2, y3, 32, 48, 49]) rfl rfl rfl (.inr rfl)
      W7 := white_mk (pre := [n0, n1, n2, 44, 32, d0, d1, 32, m0, m1, m2, 32, y0, y1, y2, y3, 32, 48, 49, 58]) (w := []) rfl rfl rfl nil (hs (atom_not_white a48))
      T7 := tok_atom (pre := [n0, n1, n2, 44, 32, d0, d1, 32, m0, m1, m2, 32, y0, y1, y2, y3, 32, 48, 49, 58]) (w := [48, 50]) rfl rfl rfl (two a48 a50) (hb a58) (by show 0 < 2; decide)
      W8 := white_mk (pre := [n0, n1, n2, 44, 32, d0, d1, 32, m0, m1, m2, 32, y0, y1, y2, y3, 32, 48, 49, 58, 48, 50]) (w := []) rfl rfl rfl nil (hs w58)
      T8 := tok_sign (pre := [n0, n1, n2, 44, 32, d0, d1, 32, m0, m1, m2, 32, y0, y1, y2, y3, 32, 48, 49, 58, 48, 50]) rfl rfl rfl (.inr rfl)
      W9 := white_mk (pre := [n0, n1, n2, 44, 32, d0, d1, 32, m0, m1, m2, 32, y0, y1, y2, y3, 32, 48, 49, 58, 48, 50, 58]) (w := []) rfl rfl rfl nil (hs (atom_not_white a48))
      T9 := tok_atom (pre := [n0, n1, n2, 44, 32, d0, d1, 32, m0, m1, m2, 32, y0, y1, y2, y3, 32, 48, 49, 58, 48, 50, 58]) (w := [48, 51]) rfl rfl rfl (two a48 a51) (hb a32) (by show 0 < 2; decide)
      W10 := white_mk (pre := [n0, n1, n2, 44, 32, d0, d1, 32, m0, m1, m2, 32, y0, y1, y2, y3, 32, 48, 49, 58, 48, 50, 58, 48, 51]) (w := [32]) rfl rfl rfl one (hs (atom_not_white a43))
      T10 := tok_atom (pre := [n0, n1, n2, 44, 32, d0, d1, 32, m0, m1, m2, 32, y0, y1, y2, y3, 32, 48, 49, 58, 48, 50, 58, 48, 51, 32]) (w := [43, 48, 48, 48, 48]) (post := []) rfl rfl rfl five (fun _ h => nomatch h) (by show 0 < 5; decide)
      W11 := white_mk (pre := [n0, n1, n2, 44, 32, d0, d1, 32, m0, m1, m2, 32, y0, y1, y2, y3, 32, 48, 49, 58, 48, 50, 58, 48, 51, 32, 43, 48, 48, 48, 48]) (w := []) (post := []) rfl rfl rfl nil (fun _ h => nomatch h) }
theorem days_atoms : ∀ N ∈ dayNames, (KStt.codes N).length = 3 ∧ (∀ c ∈ KStt.codes N, atomB c = true) ∧ (∀ c ∈ KStt.codes N, 0 ≤ c ∧ c < 256) ∧ Fits N := by unfold Fits; decide +kernel
theorem mons_atoms : ∀ N ∈ monNames, (KStt.codes N).length = 3 ∧ (∀ c ∈ KStt.codes N, atomB c = true) ∧ (∀ c ∈ KStt.codes N, 0 ≤ c ∧ c < 256) ∧ Fits N := by unfold Fits; decide +kernel
theorem three_of {l : List Int} (h : l.length = 3) : ∃ a b c, l = [a, b, c] := by
  match l, h with
  | [a, b, c], _ => exact ⟨a, b, c, rfl⟩
theorem four_of {l : List Int} (h : l.length = 4) : ∃ a b c d, l = [a, b, c, d] := by
  match l, h with
  | [a, b, c, d], _ => exact ⟨a, b, c, d, rfl⟩
theorem codes_digits {x : PySem.Str} (h : AllDigits x.cps.toList) : ∀ c ∈ KStt.codes x, 48 ≤ c ∧ c ≤ 57 := by
  intro c hc
  unfold KStt.codes at hc
  obtain ⟨k, hk, rfl⟩ := List.mem_map.mp hc
  have := h k hk
  omega
theorem digits_of {x : PySem.Str} (h : AllDigits x.cps.toList) (h1 : 1 ≤ x.length) (h2 : x.length ≤ 1000) : Digits x ∧ Fits x :=
  ⟨⟨h2, h1, fun k hk => h k hk⟩, h2, fun k hk => by have := h k hk; omega⟩
/-- all that the walks ask of a date's text -/
theorem date_plain {N TM : PySem.Str} {d y : Int} (hN : N ∈ dayNames) (hM : TM ∈ monNames) (hd1 : 1 ≤ d) (hd2 : d ≤ 31) (hy1 : 1 ≤ y) (hy2 : y ≤ 9999) :
    (∃ p, DateKs (KStt.codes (dateT N TM d y)) p (KStt.codes N) (KStt.codes (PySem.Str.ofString (toString d))) (KStt.codes TM) (KStt.codes (padT y 4)) (KStt.codes t01) (KStt.codes t02) (KStt.codes t03) (KStt.codes tZ)) ∧
    KBa.In (KStt.codes (dateT N TM d y)) ∧ Fits N ∧ Fits (PySem.Str.ofString (toString d)) ∧ Fits TM ∧ Fits (padT y 4) ∧ Digits (PySem.Str.ofString (toString d)) ∧ PySem.intText? (PySem.Str.ofString (toString d)) = some d ∧
    (1 ≤ ((PySem.Str.ofString (toString d)).length : Int) ∧ ((PySem.Str.ofString (toString d)).length : Int) ≤ 2) ∧ Digits (padT y 4) ∧ PySem.intText? (padT y 4) = some y ∧ ((padT y 4).length : Int) = 4 := by
  obtain ⟨lN, aN, bN, fN⟩ := days_atoms N hN
  obtain ⟨lM, aM, bM, fM⟩ := mons_atoms TM hM
  have dD := num_digits (n := d) (by omega)
  have dY := padT_digits (n := y) (wd := 4) (by omega)
  have l1 := num_one (n := d) (by omega)
  have l2 := toString_length_le (v := d) (k := 2) (by omega) (by decide) (by omega)
  have l4 := padT_len4 (n := y) (by omega) (by omega)
  have cD := codes_digits dD
  have cY := codes_digits dY
  have wD := digits_of dD l1 (by omega)
  have wY := digits_of dY (by omega) (by omega)
  refine ⟨?_, ?_, fN, wD.2, fM, wY.2, wD.1, KIN.num_reads (by omega) (by omega), ⟨by omega, by omega⟩, wY.1, padT_val (by omega) (by omega), by omega⟩
  · rw [dateT_codes]
    obtain ⟨n0, n1, n2, eN⟩ := three_of lN
    obtain ⟨m0, m1, m2, eM⟩ := three_of lM
    obtain ⟨y0, y1, y2, y3, eY⟩ := four_of ((codes_len _).trans l4)
    have e1 : KStt.codes t01 = [48, 49] := by decide +kernel
    have e2 : KStt.codes t02 = [48, 50] := by decide +kernel
    have e3 : KStt.codes t03 = [48, 51] := by decide +kernel
    have e4 : KStt.codes tZ = [43, 48, 48, 48, 48] := by decide +kernel
    rw [eN] at aN
    rw [eM] at aM
    rw [eY] at cY
    rw [eN, eM, eY, e1, e2, e3, e4]
    exact date_ks n0 n1 n2 m0 m1 m2 y0 y1 y2 y3 _ (aN _ (by simp)) (aN _ (by simp)) (aN _ (by simp)) (aM _ (by simp)) (aM _ (by simp)) (aM _ (by simp)) (digit_atom (cY _ (by simp))) (digit_atom (cY _ (by simp))) (digit_atom (cY _ (by simp))) (digit_atom (cY _ (by simp))) (fun c hc => digit_atom (cD c hc)) (by
      have e := codes_len (PySem.Str.ofString (toString d))
      omega)
  · rw [dateT_codes]
    intro c hc
    have ht : ∀ c ∈ tailKs, 0 ≤ c ∧ c < 256 := by decide
    simp only [List.mem_append, List.mem_cons] at hc
    rcases hc with h | h | h | h | h | h | h | h | h | h
    · exact bN c h
    · omega
    · omega
    · have := cD c h; omega
    · omega
    · exact bM c h
    · omega
    · have := cY c h; omega
    · omega
    · exact ht c h
end Mine
end PartP1
section PartH2
open PySem PySem.W PyProof.Rows PySem.Calls
namespace Mine
theorem forgetH2 : True := by
  k_with_none
  trivial
theorem say_words32 : True := by
  k_with "e_news" => (first | k_asm | (refine' cb_drop ?cbN ?cbS; (case cbN => assumption); (case cbS => kcj_all)))
  k_with "e_enter" => (refine wpAny_call ?_; k_dflt cell_enter)
  k_with "e_con" => ((case k1 => k_asm); (case k2 => k_asm); (case k3 => k_asm); (case k4 => k_asm); (case k5 => k_asm); (case k6 => first | exact rfl | assumption); (case k7 => first | ((simp only [depth_under_make, depth_under_kw, depth_in1, depth_deeper, depth_caller, ktrTop]); omega) | ktr_room); (case k8 => first | ((simp only [units_under_make, units_in1, units_deeper, Around.mark_units, units_caller, ktrTop]); omega) | ktr_units); k_whole)
  k_with "e_con2" => ((case k1 => k_asm); (case k3 => k_asm); (case k5 => k_asm); (case k6 => first | exact rfl | assumption); (case k7 => first | ((simp only [depth_under_make, depth_under_kw, depth_in1, depth_deeper, depth_caller, ktrTop]); omega) | ktr_room); (case k8 => first | ((simp only [units_under_make, units_in1, units_deeper, Around.mark_units, units_caller, ktrTop]); omega) | ktr_units); k_whole)
  trivial
section
variable {α : Type} {prog : Program} {w : World} {A : Around} {E : Value → Shared → Prop} {s : Shared} {Q : Value → Shared → Prop}
theorem Its.get {mk : α → Tok → Value} : ∀ {ks : List α} {vs : List Value}, Its mk ks vs → ∀ (i : Nat) (k : α), ks[i]? = some k → ∃ u, vs[i]? = some (mk k u)
  | _, _, .nil, i, k, h => by simp at h
  | _, _, .cons (k := k) (t := t) r, 0, x, h => ⟨t, by simp at h; simp [h]⟩
  | _, _, .cons r, i + 1, x, h => by
    obtain ⟨u, h1⟩ := r.get i x (by simpa using h)
    exact ⟨u, by simpa using h1⟩
theorem tup_at {mk : α → Tok → Value} {ks : List α} {l : List Value} {value slice : PySem.Expr} {a : Addr} {i : Int} {u : Tok} {j : Nat} {x : α} (ht : IsTup s.heap a l.toArray) (hI : Its mk ks l) (hi : i = (j : Int)) (hx : ks[j]? = some x) (hsz : ks.length < 1000)
    (h : ∀ t, Q (mk x t) s) (hs : subscripted slice false (.ref a) (.int i u) = operate [.ref a, .int i u] (getItem (.ref a) (.int i u)) := by with_unfolding_all rfl) :
    wpAny (model prog w) A (subscriptTail value slice (.ref a) (.int i u)) Q E s := by
  obtain ⟨v, hv⟩ := hI.get j x hx
  have hj : j < l.length := (List.getElem?_eq_some_iff.mp hv).1
  have hl := hI.length
  subst hi
  refine item_tupleT ht (by omega) (by omega) ?_ hv (h v) hs
  unfold seqIndex?
  simp
  omega
end
theorem bytes_of {prog : Program} {w : World} {A : Around} {E : Value → Shared → Prop} {s : Shared} {h₀ : Heap} {L D : Addr} {m : PySem.Str → Option Value} {news : List (Addr × Obj)} {ys : List Value} {T : PySem.Str} {Q : Value → Shared → Prop} (F : Fr h₀ L s.heap m) (N : News h₀ L s.heap news) (hh : A.handled = none)
    (hm : (D, LCg.lst ys) ∈ news) (hM : Made (fun (k : Nat) u => Value.int (k : Int) u) T.cps.toList ys) (hr : KBa.In (KStt.codes T)) (hn : T.cps.toList.length ≤ 1000)
    (h : ∀ h' t' k b, Fr h₀ L h' m → News h₀ L h' news → KBw.bInts b = KStt.codes T → Q (.bytes b t') { s with heap := h', toks := k }) : wpAny (model prog w) A (call (.type "bytes") [.ref D]) Q E s :=
  KBa.make_K F N hh (News.isList N hm) (Made.ints (f := fun (k : Nat) => (k : Int)) hM) hr (by rw [List.length_map]; omega) fun h' t' k F' N' i => h h' t' k _ F' N' (KBa.ints_make hr)
theorem dateT_def (N TM : PySem.Str) (d y : Int) : dateT N TM d y = PySem.Txt.join (PySem.Str.ofString " ") [N ++ PySem.Str.ofString ",", PySem.Str.ofString (toString d), TM, padT y 4, PySem.Str.ofString "01:02:03 +0000"] := rfl
section
local macro_rules | `(tactic| walk1) => `(tactic| (k_unmd; k_unfold; (try dsimp only)))
theorem wordH21 : True := by
  k_with "eval Call~" => (k_here; (with_reducible show wpAny _ _ (eval (Expr.Call (Expr.Name (PySem.Str.ofString _) _) _ _ _) _) _ _ _); k_dflt (refine Call_ ?_))
  trivial
theorem wordH22 : True := by
  k_with "call ref~" => (k_here; k_dflt (refine' Con.plain (con_is_day _ _ _ _ _ _ _ _ ?c1.wH22 ?c2.wH22 ?c3.wH22 ?c4.wH22 ?c5.wH22 ?c6.wH22) ?k1.wH22 ?k2.wH22 ?k3.wH22 ?k4.wH22 ?k5.wH22 ?k6.wH22 ?k7.wH22 ?k8.wH22 ?_; (case c1 => omega); (case c2 => omega); (case c3 => omega); (case c4 => omega); (case c5 => omega); (case c6 => assumption); k_extra "e_con"); intro t9 h9 tk9 F9 N9; (try k_fold))
  trivial
theorem wordH23 : True := by
  k_with "call ref~" => (k_here; k_dflt (refine' Con.plain (con_is_time _ _ _ _ _) ?k1.wH23 ?k2.wH23 ?k3.wH23 ?k4.wH23 ?k5.wH23 ?k6.wH23 ?k7.wH23 ?k8.wH23 ?_; k_extra "e_con"); intro t9 h9 tk9 F9 N9; (try k_fold))
  trivial
theorem con_check_moment (w : World) {x md : Addr} {e : MD} {y mo d : Int} {news} (h1 : 1 ≤ y) (h2 : y ≤ 9999) (h3 : 1 ≤ mo) (h4 : mo ≤ 12) (h5 : 1 ≤ d) (h6 : d ≤ mlen y mo) : Con 6 w 221 [.ref x] ((x, instObj 161 md) :: (md, dictOf (momEs e y mo d) 7) :: news) (Pl (fun _ => .none)) := by
  unfold Con
  k_fill
  w_on
  intro mean mg mb dp un gd cn cs a ccd cl outer A₀ base h₀ L m s Q E B F X N T hk hd hu hret
  k_extra "e_enter"
  k_steps
  exact ret_plain (v' := fun _ => Value.none) (t := 0) hret rfl (by k_asm) (by k_extra "e_news")
theorem days_len : ∀ N ∈ dayNames, N.length = 3 := by decide +kernel
theorem mons_len : ∀ N ∈ monNames, N.length = 3 := by decide +kernel
theorem padT_len {n wd : Int} (h0 : 0 ≤ n) (h1 : n < 10 ^ 10) (h2 : 0 ≤ wd) (h3 : wd ≤ 4) : (padT n wd).length ≤ 14 := by
  have a := KT.len_num h0 h1
  unfold padT
  rw [PySem.Str.length_append]
  have z : PySem.Str.ofString "0" = ⟨#[48]⟩ := by decide +kernel
  have b := len_mul_one (N := 4) z (show wd - ((PySem.Str.ofString (toString n)).length : Int) ≤ ((4 : Nat) : Int) by omega)
  omega
theorem dateT_len {N TM : PySem.Str} {d y : Int} (hN : N.length = 3) (hT : TM.length = 3) (hd : (PySem.Str.ofString (toString d)).length ≤ 10) (hy : (padT y 4).length ≤ 14) : (dateT N TM d y).cps.toList.length ≤ 1000 := by
  have e1 : (PySem.Str.ofString ",").length = 1 := by decide +kernel
  have e2 : (PySem.Str.ofString " ").length = 1 := by decide +kernel
  have e3 : (PySem.Str.ofString "01:02:03 +0000").length = 14 := by decide +kernel
  rw [dateT_eq, Array.length_toList]
  show PySem.Str.length _ ≤ 1000
  simp only [PySem.Str.length_append]
  omega
theorem date_join {N TM : PySem.Str} {d y : Int} (hN : N.length = 3) (hT : TM.length = 3) (hd : (PySem.Str.ofString (toString d)).length ≤ 10) (hy : (padT y 4).length ≤ 14) :
    ([N ++ PySem.Str.ofString ",", PySem.Str.ofString (toString d), TM, padT y 4, PySem.Str.ofString "01:02:03 +0000"].map (·.length)).sum + [N ++ PySem.Str.ofString ",", PySem.Str.ofString (toString d), TM, padT y 4, PySem.Str.ofString "01:02:03 +0000"].length * (PySem.Str.ofString " ").length ≤ 16777216 := by
  have e1 : (PySem.Str.ofString ",").length = 1 := by decide +kernel
  have e2 : (PySem.Str.ofString " ").length = 1 := by decide +kernel
  have e3 : (PySem.Str.ofString "01:02:03 +0000").length = 14 := by decide +kernel
  simp only [List.map_cons, List.map_nil, List.sum_cons, List.sum_nil, List.length_cons, List.length_nil, PySem.Str.length_append]
  omega
theorem wordH24 : True := by
  k_with "call ref~" => (k_here; k_dflt (refine' Con.plain (con_check_moment _ ?c1.wH24 ?c2.wH24 ?c3.wH24 ?c4.wH24 ?c5.wH24 ?c6.wH24) ?k1.wH24 ?k2.wH24 ?k3.wH24 ?k4.wH24 ?k5.wH24 ?k6.wH24 ?k7.wH24 ?k8.wH24 ?_; (case k2 => k_asm); (case k4 => k_asm); (case c1 => omega); (case c2 => omega); (case c3 => omega); (case c4 => omega); (case c5 => omega); (case c6 => assumption); k_extra "e_con2"); intro t9 h9 tk9 F9 N9; (try k_fold))
  trivial
theorem wordH25 : True := by
  k_with "call ref~" => (k_here; k_dflt (refine' Con.plain (con_clock_text _) ?k1.wH25 ?k2.wH25 ?k3.wH25 ?k4.wH25 ?k5.wH25 ?k6.wH25 ?k7.wH25 ?k8.wH25 ?_; (case k2 => k_asm); (case k4 => k_asm); k_extra "e_con2"); intro t9 h9 tk9 F9 N9; (try k_fold))
  trivial
theorem wordH26 : True := by
  k_with "call ref~" => (k_here; k_dflt (refine' Con.plain (con_padded _ _ _ _ _ _ _ ?c1.wH26 ?c2.wH26 ?c3.wH26 ?c4.wH26 ?c5.wH26) ?k1.wH26 ?k2.wH26 ?k3.wH26 ?k4.wH26 ?k5.wH26 ?k6.wH26 ?k7.wH26 ?k8.wH26 ?_; (case c5 => exact rfl); (case c1 => omega); (case c2 => omega); (case c3 => decide); (case c4 => decide); k_extra "e_con"); intro t9 h9 tk9 F9 N9; (try k_fold))
  trivial
theorem wordH27 : True := by
  k_with "call ref~" => (k_here; k_dflt (refine' Con.plain (con_weekday _ _ _ _ _ _ _ _ ?c1.wH27 ?c2.wH27) ?k1.wH27 ?k2.wH27 ?k3.wH27 ?k4.wH27 ?k5.wH27 ?k6.wH27 ?k7.wH27 ?k8.wH27 ?_; (case c1 => omega); (case c2 => omega); k_extra "e_con"); intro t9 h9 tk9 F9 N9; (try k_fold))
  trivial
theorem wordH28 : True := by
  k_with "subscriptTail~" => (k_here; (with_reducible show wpAny _ _ (subscriptTail _ _ (Value.ref _) (Value.int _ _)) _ _ _); k_dflt (refine' tup_at (mk := fun (x : PySem.Str) u => Value.str x u) ?ht.wH28 ?hI.wH28 ?hi.wH28 ?hx.wH28 ?hz.wH28 ?_; (case ht => exact tupK (by k_in) (by k_is)); (case hI => repeat constructor); (case hx => assumption); (case hi => k_extra "tup_i"); (case hz => decide); k_whole); intro t9; (try k_fold))
  trivial
theorem wordH29 : True := by
  k_with "eval ListComp~" => (k_here; (with_reducible show PySem.wpAny _ _ (PySem.eval (PySem.Expr.ListComp _ [⟨PySem.Expr.Name (PySem.Str.ofString "sign") _, _, [], _⟩] _ _) _) _ _ _); k_dflt (refine ListComp_codes (fun (k : Nat) u => Value.int (k : Int) u) (F₀ := by k_asm) (by with_unfolding_all rfl) (by decide) (by rfl) (by decide) (by rfl) ?_))
  trivial
theorem wordH210 : True := by
  k_with "CodeSrc~" => (k_here; k_dflt (refine ⟨_, _, _, iter_str, rfl, by k_asm, by k_asm, by k_extra "c_size", ?turn.wH210, ?fin.wH210⟩); (case' turn => (intro g'; unfold CodeTurn; intro k' t' I' oI' C' oC' D' m' ys' h' tk' E' hk' hC' hx' F' N' off' ne'; (try dsimp only at hx'); (try k_fold))); (case' fin => (unfold CodeFin; intro ys' D' h' tk' made' F' N' off'; (try k_fold))))
  trivial
theorem wordH211 : True := by
  k_with "call builtin:str.join~" => (k_here; k_dflt ((show PySem.wpAny _ _ (PySem.call (Value.builtin "str.join") [Value.str _ _, Value.ref _]) _ _ _); refine' join_list ?a.wH211 ?b.wH211 ?c.wH211 ?_; (case a => exact News.isList (by k_asm) (by k_mem)); (case b => repeat constructor); (case c => k_extra "j_size")); intro t9 k9)
  trivial
theorem wordH212 : True := by
  k_with "call type:bytes~" => (k_here; (with_reducible show wpAny _ _ (call (Value.type "bytes") [Value.ref _]) _ _ _); k_dflt (refine' bytes_of ?ka.wH212 ?kb.wH212 ?kc.wH212 ?kd.wH212 ?ke.wH212 ?kf.wH212 ?kg.wH212 ?_; (case ka => k_asm); (case kb => k_asm); (case kc => exact rfl); (case kd => k_mem); (case ke => with_reducible assumption); (case kf => k_extra "b_in"); (case kg => k_extra "b_len"); k_whole); intro h9 t9 k9 b9 F9 N9 i9; (try k_fold))
  trivial
theorem wordH213 : True := by
  k_with "CompEnd~" => (k_here; k_dflt (refine LCg.CompEnd.intro (by k_asm) (by k_asm) _ ?sub.wH213 (by assumption) trivial ?el.wH213; (case el => exact ⟨rfl, _, rfl⟩); (case sub => kcf_all)))
  trivial
theorem con_write_date (w : World) {x md : Addr} {e : MD} {y d : Int} {jm jd : Nat} {N' TM : PySem.Str} {news} (h1 : 1 ≤ y) (h2 : y ≤ 9999) (hm : jm < 12) (h5 : 1 ≤ d) (h6 : d ≤ mlen y ((jm : Int) + 1)) (hd31 : d ≤ 31)
   (hjd : wday y ((jm : Int) + 1) d = (jd : Int)) (hN : dayNames[jd]? = some N') (hTM : monNames[jm]? = some TM) :
   Con 10 w 354 [.ref x] ((x, instObj 161 md) :: (md, dictOf (momEs e y ((jm : Int) + 1) d) 7) :: news) (fun r tl => tl = [] ∧ ∃ b t, r = .bytes b t ∧ KBw.bInts b = KStt.codes (dateT N' TM d y)) := by
  unfold Con
  k_fill
  w_on
  have nN := days_len _ (List.mem_of_getElem? hN)
  have nM := mons_len _ (List.mem_of_getElem? hTM)
  have nD := KT.len_num (n := d) (by omega) (by omega)
  have nP := padT_len (n := y) (wd := 4) (by omega) (by omega) (by decide) (by decide)
  intro mean mg mb dp un gd cn cs a ccd cl outer A₀ base h₀ L m s Q E B F X N T hk hd hu hret
  k_with "tup_i" => (first | assumption | omega)
  k_with "j_size" => exact date_join nN nM nD nP
  have bI := (date_plain (List.mem_of_getElem? hN) (List.mem_of_getElem? hTM) h5 hd31 h1 h2).2.1
  rw [dateT_def] at bI
  have bL := dateT_len (d := d) (y := y) nN nM nD nP
  rw [dateT_def] at bL
  k_with "b_in" => with_reducible exact bI
  k_with "b_len" => with_reducible exact bL
  k_with "c_size" => exact Nat.le_trans (dateT_len nN nM nD nP) (by rw [sizeLine_eq]; omega)
  k_extra "e_enter"
  k_steps
  with_reducible rename KBw.bInts _ = _ => hB
  rw [← dateT_def] at hB
  exact hret _ [] _ _ (by k_asm) (by k_extra "e_news") (fun _ _ _ h => nomatch h) ⟨rfl, _, _, rfl, hB⟩
end
end Mine
end PartH2
section PartD1
open PySem PySem.W PyProof.Rows PySem.Calls
namespace Mine
theorem forgetD1 : True := by
  k_with_none
  trivial
theorem say_words41 : True := by
  k_with "e_news" => (first | k_asm | (refine' cb_drop ?cbN ?cbS; (case cbN => assumption); (case cbS => kcj_all)))
  k_with "e_enter" => (refine wpAny_call ?_; k_dflt cell_enter)
  k_with "e_con" => ((case k1 => k_asm); (case k2 => k_asm); (case k3 => k_asm); (case k4 => k_asm); (case k5 => k_asm); (case k6 => first | exact rfl | assumption); (case k7 => first | ((simp only [depth_under_make, depth_under_kw, depth_in1, depth_deeper, depth_caller, ktrTop]); omega) | ktr_room); (case k8 => first | ((simp only [units_under_make, units_in1, units_deeper, Around.mark_units, units_caller, ktrTop]); omega) | ktr_units); k_whole)
  k_with "e_con2" => ((case k1 => k_asm); (case k3 => k_asm); (case k5 => k_asm); (case k6 => first | exact rfl | assumption); (case k7 => first | ((simp only [depth_under_make, depth_under_kw, depth_in1, depth_deeper, depth_caller, ktrTop]); omega) | ktr_room); (case k8 => first | ((simp only [units_under_make, units_in1, units_deeper, Around.mark_units, units_caller, ktrTop]); omega) | ktr_units); k_whole)
  trivial
section
variable {prog : Program} {w : World} {A : Around} {E : Value → Shared → Prop} {s : Shared} {Q : Value → Shared → Prop}
theorem ints_at : ∀ {vs : List Value} {ns : List Int}, IntsAre vs ns → ∀ i : Nat, i < ns.length → ∃ z t, vs[i]? = some (.int z t)
  | _, _, .nil, i, h => absurd h (Nat.not_lt_zero _)
  | _, _, .cons z t _, 0, _ => ⟨z, t, rfl⟩
  | _, _, .cons _ _ r, i + 1, h => by
    obtain ⟨z, t, e⟩ := ints_at r i (by simpa using h)
    exact ⟨z, t, by simpa using e⟩
theorem item_ints {value slice : PySem.Expr} {l : Addr} {vs : List Value} {ns : List Int} {i : Int} {u : Tok} (hl : s.heap.IsList l vs.toArray) (hi : IntsAre vs ns) (h0 : 0 ≤ i) (h1 : i < ns.length) (hn : ns.length < 1000) (h : ∀ z t, Q (.int z t) s)
    (hs : subscripted slice false (.ref l) (.int i u) = operate [.ref l, .int i u] (getItem (.ref l) (.int i u)) := by with_unfolding_all rfl) :
    wpAny (model prog w) A (subscriptTail value slice (.ref l) (.int i u)) Q E s := by
  obtain ⟨z, t, e⟩ := ints_at hi i.toNat (by omega)
  exact item_at hl h0 (by omega) e (h z t) hs
theorem len_ints {l : Addr} {vs : List Value} {ns : List Int} (hl : s.heap.IsList l vs.toArray) (hi : IntsAre vs ns) (hn : ns.length < 1000) (h : ∀ t k, Q (.int (ns.length : Int) t) { s with toks := k }) : wpAny (model prog w) A (PySem.call (.builtin "len") [.ref l]) Q E s :=
  len_vs hl (by rw [hi.length]; exact hn) (by rw [hi.length]; exact h)
end
abbrev poolO (D C : Addr) (n : Nat) (g st pl : Int) (t1 t2 t3 : Tok) : Addr × Obj := (D, listOf #[.ref C, .int g t1, .int st t2, .int pl t3] n)
section
local macro_rules | `(tactic| walk1) => `(tactic| (k_unmd; k_unfold; (try dsimp only)))
local macro_rules | `(tactic| k_mem) => `(tactic| first | assumption | exact List.Mem.tail _ (by assumption))
local macro_rules | `(tactic| k_upd) => `(tactic| exact Upd.head (by assumption))
theorem wordD11 : True := by
  k_with "subscriptTail~" => (k_here; (with_reducible show wpAny _ _ (subscriptTail _ _ (Value.ref _) (Value.int _ _)) _ _ _); k_dflt (refine' item_ints ?a.wD11 ?b.wD11 ?c.wD11 ?d.wD11 ?e.wD11 ?_; (case a => exact News.isList (by k_asm) (by k_mem)); (case b => assumption); (case c => omega); (case d => omega); (case e => omega)); intro z9 t9; (try k_fold))
  trivial
theorem wordD12 : True := by
  k_with "call builtin:len~" => (k_here; (with_reducible show PySem.wpAny _ _ (PySem.call (Value.builtin "len") [Value.ref _]) _ _ _); k_dflt (refine' len_ints ?a.wD12 ?b.wD12 ?c.wD12 ?_; (case a => exact News.isList (by k_asm) (by k_mem)); (case b => assumption); (case c => omega)); intro t9 k9)
  trivial
theorem fdiv_nn {a b : Int} (h : 0 ≤ a) (k : 0 ≤ b) : 0 ≤ Int.fdiv a b := by
  rw [Int.fdiv_eq_ediv_of_nonneg _ k]
  exact Int.ediv_nonneg h k
theorem con_law_draw {w : World} {D C : Addr} {n nC : Nat} {vs : List Value} {ns : List Int} {g st pl most : Int} {t1 t2 t3 t4 : Tok} {rest : List (Addr × Obj)}
   (mC : (C, listOf vs.toArray nC) ∈ rest) (hne : ∀ p ∈ rest, p.1 ≠ D) (hI : IntsAre vs ns) (hn : ns.length < 1000) (g0 : 0 ≤ g) (s0 : 0 ≤ st) (s1 : st < 2147483647) (p0 : 0 ≤ pl) (p1 : pl < 100) (m0 : 1 ≤ most) (m1 : most < 100000) :
   ConU 3 w 366 [.ref D, .int most t4] (poolO D C n g st pl t1 t2 t3 :: rest) (fun r nw' => ∃ k t n' g' st' t1' t2' t3', r = .int k t ∧ 0 ≤ k ∧ k < most ∧ 0 ≤ g' ∧ 0 ≤ st' ∧ st' < 2147483647 ∧ nw' = poolO D C n' g' st' (pl + 1) t1' t2' t3' :: rest) := by
  unfold ConU
  k_fill
  w_on
  intro mean mg mb dp un gd cn cs a ccd cl outer A₀ base h₀ L m s Q E B F X N T hk hd hu hret
  k_extra "e_enter"
  k_steps
  all_goals (have q5 := fmod_lo (st * 16807 + pl * pl + 5) (n := 2147483647) (by decide); have q6 := fmod_hi (st * 16807 + pl * pl + 5) (n := 2147483647) (by decide))
  all_goals exact hret _ _ _ _ (by k_asm) (by k_asm) ⟨_, _, _, _, _, _, _, _, rfl, fmod_lo _ (by omega), fmod_hi _ (by omega), (by first | assumption | exact fdiv_nn (by omega) (by omega)), by omega, by omega, rfl⟩
end
end Mine
end PartD1
section PartCal
open PySem PySem.W PyProof.Rows PySem.Calls
namespace Mine
/-- the calendar, by Euclid's remainders -/
theorem dby_eq (y : Int) : dby y = (y - 1) * 365 + (y - 1) / 4 - (y - 1) / 100 + (y - 1) / 400 := by
  unfold dby
  rw [Int.fdiv_eq_ediv_of_nonneg _ (by decide), Int.fdiv_eq_ediv_of_nonneg _ (by decide), Int.fdiv_eq_ediv_of_nonneg _ (by decide)]
theorem leap_iff (y : Int) : leapB y = true ↔ (y % 4 = 0 ∧ (y % 100 ≠ 0 ∨ y % 400 = 0)) := by
  unfold leapB
  rw [Int.fmod_eq_emod_of_nonneg _ (by decide), Int.fmod_eq_emod_of_nonneg _ (by decide), Int.fmod_eq_emod_of_nonneg _ (by decide)]
  simp
theorem leap_400 (y : Int) : leapB (y + 400) = leapB y := by
  rw [Bool.eq_iff_iff, leap_iff, leap_iff]
  omega
theorem dby_next (y : Int) : dby (y + 1) = dby y + (if leapB y = true then 366 else 365) := by
  rw [dby_eq, dby_eq]
  split
  · rename_i h
    rw [leap_iff] at h
    omega
  · rename_i h
    rw [leap_iff] at h
    omega
theorem dby_400 (y : Int) : dby (y + 400) = dby y + 146097 := by
  rw [dby_eq, dby_eq]
  omega
theorem wday_eq (y m d : Int) : wday y m d = (dnum y m d + 3) % 7 := Int.fmod_eq_emod_of_nonneg _ (by decide)
theorem wday_in (y m d : Int) : 0 ≤ wday y m d ∧ wday y m d < 7 := by
  rw [wday_eq]
  omega
def lastF (y : Int) : Int := if leapB y = true then 29 else 28
theorem mlen_2 (y : Int) : mlen y 2 = lastF y := rfl
theorem dnum_def (y m d : Int) : dnum y m d = dby y - 719162 + d - 1 + ((rangeKs 1 (m - 1).toNat).map (mlen y)).sum := rfl
/-- the days of a year ahead of a month -/
def ahead (y : Int) (m : Int) : Int := ((rangeKs 1 (m - 1).toNat).map (mlen y)).sum
theorem ahead_at (y : Int) : ahead y 1 = 0 ∧ ahead y 2 = 31 ∧ ahead y 4 = 62 + lastF y ∧ ahead y 5 = 92 + lastF y ∧ ahead y 6 = 123 + lastF y ∧ ahead y 7 = 153 + lastF y ∧ ahead y 8 = 184 + lastF y ∧ ahead y 9 = 215 + lastF y ∧ ahead y 10 = 245 + lastF y ∧ ahead y 11 = 276 + lastF y ∧ ahead y 12 = 306 + lastF y := by
  have e1 : mlen y 1 = 31 := rfl
  have e2 : mlen y 2 = lastF y := rfl
  have e3 : mlen y 3 = 31 := rfl
  have e4 : mlen y 4 = 30 := rfl
  have e5 : mlen y 5 = 31 := rfl
  have e6 : mlen y 6 = 30 := rfl
  have e7 : mlen y 7 = 31 := rfl
  have e8 : mlen y 8 = 31 := rfl
  have e9 : mlen y 9 = 30 := rfl
  have e10 : mlen y 10 = 31 := rfl
  have e11 : mlen y 11 = 30 := rfl
  have r : ∀ n : Nat, n ≤ 11 → rangeKs 1 n = [(1 : Int), 2, 3, 4, 5, 6, 7, 8, 9, 10, 11].take n := by decide
  refine ⟨rfl, ?_, ?_, ?_, ?_, ?_, ?_, ?_, ?_, ?_, ?_⟩ <;> unfold ahead <;> rw [r _ (by decide)] <;> simp only [Int.reduceSub, Int.reduceToNat, List.take, List.map_cons, List.map_nil, List.sum_cons, List.sum_nil, e1, e2, e3, e4, e5, e6, e7, e8, e9, e10, e11] <;> omega
theorem wday_ahead (y m d : Int) : wday y m d = (dby y + d + ahead y m + 6) % 7 := by
  rw [wday_eq, dnum_def]
  unfold ahead
  omega
theorem lastF_in (y : Int) : lastF y = 28 ∨ lastF y = 29 := by
  unfold lastF
  split
  · exact .inr rfl
  · exact .inl rfl
/-- the nine twins fall on the last of February's day -/
theorem twins_law (y : Int) : ∀ p ∈ [((4 : Int), (4 : Int)), (6, 6), (8, 8), (10, 10), (12, 12), (5, 9), (9, 5), (7, 11), (11, 7)], wday y p.1 p.2 = wday y 2 (mlen y 2) := by
  obtain ⟨a1, a2, a4, a5, a6, a7, a8, a9, a10, a11, a12⟩ := ahead_at y
  have h := lastF_in y
  intro p hp
  simp only [List.mem_cons, List.not_mem_nil, or_false] at hp
  rcases hp with rfl | rfl | rfl | rfl | rfl | rfl | rfl | rfl | rfl <;> (dsimp only; rw [wday_ahead, wday_ahead, mlen_2]; omega)
theorem later_law (y : Int) : wday (y + 1) 2 (mlen (y + 1) 2) = (wday y 2 (mlen y 2) + (if leapB (y + 1) = true then 2 else 1)) % 7 := by
  have a := ahead_at y
  have b := ahead_at (y + 1)
  rw [wday_ahead, wday_ahead, mlen_2, mlen_2, dby_next, a.2.1, b.2.1]
  unfold lastF
  split <;> split <;> omega
theorem mlen_400 (y m : Int) : mlen (y + 400) m = mlen y m := by
  unfold mlen
  rw [leap_400]
theorem years_law (y m d : Int) : wday (y + 400) m d = wday y m d := by
  have e : ahead (y + 400) m = ahead y m := by
    unfold ahead
    congr 2
    funext k
    exact mlen_400 y k
  rw [wday_ahead, wday_ahead, e, dby_400]
  omega
theorem week_law (y m t : Int) : wday y m (1 + t) = (wday y m (1 + 0) + t) % 7 := by
  rw [wday_ahead, wday_ahead]
  omega
theorem epoch_law : wday 1970 1 1 = 3 := by decide +kernel
theorem mlen_in (y m : Int) : 28 ≤ mlen y m ∧ mlen y m ≤ 31 := by
  unfold mlen
  split
  · split <;> omega
  · split <;> omega
end Mine
namespace Mine
theorem week_same (y m : Int) : List.map (fun k' => wday y m (1 + k')) (rangeKs 0 (7 - 0 : Int).toNat) = List.map (fun k' => ((List.map (fun k' => wday y m (1 + k')) (rangeKs 0 (7 - 0 : Int).toNat)).getD (Int.toNat 0) 0 + k').fmod 7) (rangeKs 0 (7 - 0 : Int).toNat) := by
  have r : rangeKs 0 (7 - 0 : Int).toNat = [0, 1, 2, 3, 4, 5, 6] := by decide
  rw [r]
  refine List.map_congr_left fun k _ => ?_
  rw [Int.fmod_eq_emod_of_nonneg _ (by decide)]
  exact week_law y m k
def dayBytes : List (Array UInt8) := [#[77, 111, 110], #[84, 117, 101], #[87, 101, 100], #[84, 104, 117], #[70, 114, 105], #[83, 97, 116], #[83, 117, 110]]
theorem day_facts {z : Int} (h0 : 0 ≤ z) (h1 : z < 7) : ∃ (j : Nat) (N : PySem.Str) (b : Array UInt8), z = (j : Int) ∧ dayNames[j]? = some N ∧ dayBytes[j]? = some b ∧ KBw.bInts b = KStt.codes N := by
  have all : ∀ j : Nat, j < 7 → KBw.bInts (dayBytes.getD j #[]) = KStt.codes (dayNames.getD j PySem.Str.empty) := by decide +kernel
  have l1 : dayNames.length = 7 := rfl
  have l2 : dayBytes.length = 7 := rfl
  have hj : z.toNat < 7 := by omega
  have q := all z.toNat hj
  rw [List.getD_eq_getElem?_getD, List.getD_eq_getElem?_getD, List.getElem?_eq_getElem (by omega), List.getElem?_eq_getElem (by omega)] at q
  exact ⟨z.toNat, _, _, by omega, List.getElem?_eq_getElem (by omega), List.getElem?_eq_getElem (by omega), q⟩
theorem mon_facts {m : Int} (h0 : 1 ≤ m) (h1 : m ≤ 12) : ∃ (j : Nat) (TM : PySem.Str), m = (j : Int) + 1 ∧ j < 12 ∧ monNames[j]? = some TM := by
  have l1 : monNames.length = 12 := rfl
  exact ⟨(m - 1).toNat, _, by omega, by omega, List.getElem?_eq_getElem (by omega)⟩
end Mine
end PartCal
section PartD2
open PySem PySem.W PyProof.Rows PySem.Calls
namespace Mine
theorem forgetD2 : True := by
  k_with_none
  trivial
/-- a call with a list of ints that stands below -/
def ConL (d : Nat) (w : World) (f : Addr) (a : Addr) (items : List Value) (news : List (Addr × Obj)) (P : Value → List (Addr × Obj) → Prop) : Prop :=
  ∀ (mean : ExcName → Option Value) (mg mb : PySem.Str → Option Value) (dp un : Nat) (gd : Option (List Code)) (cn : PySem.Str) (cs : Scope) (aa : Addr) (ccd : Value) (cl : List (PySem.Str × Addr)) (outer : List Env) (A₀ : Around) (base h₀ : Heap) (L : Addr) (m : PySem.Str → Option Value) (s : Shared) (Q E : Value → Shared → Prop),
    Below A₀ base outer h₀ → Fr h₀ L s.heap m → (Mine.hd.heap_1 w.params).In h₀ → News h₀ L s.heap news →
    Top Mine.viewM (looseW Mine.viewM [PySem.Str.ofString "PostError", PySem.Str.ofString "MOST_ZONE"]) mean mg mb h₀ → cs.kind = .function → dp + d < recursionLimit → un + 200 * d < cLine → base.IsList a items.toArray →
    (∀ (r : Value) (tl : List (Addr × Obj)) (h' : Heap) (tk' : Nat), Fr h₀ L h' m → News h₀ L h' (tl ++ news) → (∀ q ∈ news, ∀ p ∈ tl, q.1 ≠ p.1) → P r tl → Q r { s with heap := h', toks := tk' }) →
    wpAny (model PySem.Challenge.rw_nz0305_01.row.prog w) (ktrTop dp un gd cn cs L aa ccd cl outer) (PySem.call (.ref f) [.ref a]) Q E s
theorem ConL.use {d : Nat} {w : World} {f : Addr} {al : Addr} {items : List Value} {news : List (Addr × Obj)} {P : Value → List (Addr × Obj) → Prop} (C : ConL d w f al items news P)
    {mean : ExcName → Option Value} {mg mb : PySem.Str → Option Value} {A : Around} {cn : PySem.Str} {cs : Scope} {a : Addr} {ccd : Value} {cl : List (PySem.Str × Addr)} {outer : List Env} {A₀ : Around} {base h₀ : Heap} {L : Addr} {m : PySem.Str → Option Value} {s : Shared} {Q E : Value → Shared → Prop}
    (B : Below A₀ base outer h₀) (F : Fr h₀ L s.heap m) (X : (Mine.hd.heap_1 w.params).In h₀) (N : News h₀ L s.heap news)
    (T : Top Mine.viewM (looseW Mine.viewM [PySem.Str.ofString "PostError", PySem.Str.ofString "MOST_ZONE"]) mean mg mb h₀) (hk : cs.kind = .function) (hd : A.depth + d < recursionLimit) (hu : A.units + 200 * d < cLine) (hl : base.IsList al items.toArray)
    (h : ∀ (r : Value) (tl : List (Addr × Obj)) (h' : Heap) (tk' : Nat), Fr h₀ L h' m → News h₀ L h' (tl ++ news) → (∀ q ∈ news, ∀ p ∈ tl, q.1 ≠ p.1) → P r tl → Q r { s with heap := h', toks := tk' })
    (hA1 : A.handled = none := by rfl) (hA2 : A.frames = some (envX cn cs L a ccd cl :: outer) := by rfl) :
    wpAny (model PySem.Challenge.rw_nz0305_01.row.prog w) A (PySem.call (.ref f) [.ref al]) Q E s := by
  rw [around_is hA1 hA2]
  exact C mean mg mb A.depth A.units A.guards cn cs a ccd cl outer A₀ base h₀ L m s Q E B F X N T hk hd hu hl h
theorem say_words42 : True := by
  k_with "e_news" => (first | k_asm | (refine' cb_drop ?cbN ?cbS; (case cbN => assumption); (case cbS => kcj_all)))
  k_with "e_enter" => (refine wpAny_call ?_; k_dflt cell_enter)
  trivial
theorem ints_of_made : ∀ {ks : List Int} {ys : List Value}, Made (fun (k : Int) u => Value.int k u) ks ys → IntsAre ys ks
  | _, _, .nil => .nil
  | _, _, .cons t r => .cons _ t (ints_of_made r)
section
theorem wordD21 : True := by
  k_with "exec Assign cons ListComp~" => (k_here; (with_reducible show PySem.wpAny _ _ (PySem.exec (PySem.Stmt.Assign _ (PySem.Expr.ListComp _ [⟨PySem.Expr.Name (PySem.Str.ofString "cell") _, _, [], _⟩] _ _) _) _) _ _ _); k_dflt (refine Assign_codesN (fun (k : Int) u => Value.int k u) (F₀ := by k_asm) (by rfl) (by with_unfolding_all rfl) (by with_unfolding_all rfl) (by decide) (by rfl) (by decide) (by rfl) (by rfl) (by rfl) ?_))
  trivial
theorem wordD22 : True := by
  k_with "CodeSrcN~" => (k_here; k_dflt (refine ⟨fun (k : Int) u => Value.int k u, _, _, _, _, iterN_list (its_ints (by assumption)), rfl, by k_asm, by k_asm, by k_mem, by k_extra "c_size", ?turn.wD22, ?fin.wD22⟩); (case' turn => (intro g'; unfold CodeTurnN; intro k' t' I' oI' C' oC' D' m' ys' h' tk' E' hk' hC' hx' F' N' off' ne'; (try dsimp only at hx'); (try k_fold))); (case' fin => (unfold CodeFinA; intro ys' D' h' tk' made' F' N' off'; (have iM' := ints_of_made made'); clear made'; (try k_fold))))
  trivial
theorem wordD23 : True := by
  k_with "CompEnd~" => (k_here; k_dflt (refine LCg.CompEnd.intro (by k_asm) (by k_asm) _ ?sub.wD23 (by assumption) ?st.wD23 ?el.wD23; (case st => k_mem); (case el => exact ⟨rfl, _, rfl⟩); (case sub => kcf_all)))
  trivial
theorem fold_lo {γ : Type} {f : Int × Int × γ → Int → Int × Int × γ} (h : ∀ σ n, 0 ≤ (f σ n).1) : ∀ (l : List Int) (σ : Int × Int × γ), 0 ≤ σ.1 → 0 ≤ (l.foldl f σ).1
  | [], _, k => k
  | n :: r, σ, _ => fold_lo h r (f σ n) (h σ n)
theorem fold_hi {γ : Type} {f : Int × Int × γ → Int → Int × Int × γ} (h : ∀ σ n, (f σ n).1 < 2147483647) : ∀ (l : List Int) (σ : Int × Int × γ), σ.1 < 2147483647 → (l.foldl f σ).1 < 2147483647
  | [], _, k => k
  | n :: r, σ, _ => fold_hi h r (f σ n) (h σ n)
theorem fold_g {γ : Type} {f : Int × Int × γ → Int → Int × Int × γ} (h : ∀ σ n, (f σ n).2.1 = σ.2.1) : ∀ (l : List Int) (σ : Int × Int × γ), 0 ≤ σ.2.1 → 0 ≤ (l.foldl f σ).2.1
  | [], _, k => k
  | n :: r, σ, k => fold_g h r (f σ n) (by rw [h σ n]; exact k)
theorem seven : (0 : Int) ≤ 7 ∧ (7 : Int) < 2147483647 := by decide
theorem box_ord {l D : Addr} {o o' : Obj} {news : List (Addr × Obj)} (h : ∀ p ∈ news, p.1 < l) (_ : D < l) (h' : ∀ p ∈ news, p.1 ≠ D) : ∀ q ∈ news, ∀ p ∈ [(l, o), (D, o')], q.1 ≠ p.1 := fun q hq p hp => by
  rcases List.mem_cons.mp hp with hp | hp
  · rw [hp]; exact Nat.ne_of_lt (h q hq)
  · rw [List.mem_singleton.mp hp]; exact h' q hq
theorem con_law_box (w : World) (a : Addr) (items : List Value) (ns : List Int) (news) (hI : IntsAre items ns) (hn : ns.length ≤ 63) : ConL 2 w 359 a items news (fun r tl => ∃ D C n nC vs ks g st t1 t2 t3, r = .ref D ∧ tl = [poolO D C n g st 0 t1 t2 t3, (C, listOf vs.toArray nC)] ∧ C ≠ D ∧ IntsAre vs ks ∧ ks.length < 1000 ∧ 0 ≤ g ∧ 0 ≤ st ∧ st < 2147483647) := by
  unfold ConL
  k_fill
  w_on
  intro mean mg mb dp un gd cn cs aa ccd cl outer A₀ base h₀ L m s Q E B F X N T hk hd hu hl hret
  k_with "c_size" => (rw [List.length_take, sizeLine_eq]; omega)
  k_extra "e_enter"
  k_steps
  all_goals (
    rename News h₀ L _ _ => hN
    rename (_ < _ ∧ _ < _ ∧ AllLt _ _) => l2
    have hlt : (List.take 40 ns).length < 1000 := by rw [List.length_take]; omega
    with_reducible rename LCg.Off1 _ _ => off8
    have e := ktn_ltOf l2.2.2)
  all_goals refine hret _ [_, _] _ _ (by k_asm) (cb_drop hN mem_drop3) (box_ord e l2.1 (off1_mem off8.2)) ⟨_, _, _, _, _, _, _, _, _, _, _, rfl, rfl, Nat.ne_of_lt l2.1, by assumption, hlt, ?_, ?_, ?_⟩
  all_goals first
    | (refine fold_g ?_ _ _ ?_; (exact fun _ _ => rfl); first | exact fmod_lo _ (Int.pow_pos (by decide)) | exact Int.le_refl 0)
    | exact fold_lo (fun _ _ => fmod_lo _ (by decide)) _ _ seven.1
    | (refine fold_hi ?_ _ _ ?_; (exact fun _ _ => fmod_hi _ (by decide)); exact seven.2)
end
end Mine
end PartD2
section PartL0a
open PySem PySem.W PyProof.Rows PySem.Calls
namespace Mine
section
variable {prog : Program} {w : World} {A : Around} {E : Value → Shared → Prop} {s : Shared}
theorem item_day {Q : Value → Shared → Prop} {y m d : Int} {l : List Value} {value slice : PySem.Expr} {a : Addr} {u : Tok} (ht : IsTup s.heap a l.toArray) (hI : Its (fun (b : Array UInt8) u => Value.bytes b u) dayBytes l) (h1 : 1 ≤ m) (h2 : m ≤ 12)
    (h : ∀ (jd : Nat) (N : PySem.Str) (b : Array UInt8) (t : Tok) (jm : Nat) (TM : PySem.Str), wday y m d = (jd : Int) → dayNames[jd]? = some N → KBw.bInts b = KStt.codes N → m = (jm : Int) + 1 → jm < 12 → monNames[jm]? = some TM → (KStt.codes N).length = 3 → Q (.bytes b t) s)
    (hs : subscripted slice false (.ref a) (.int (wday y m d) u) = operate [.ref a, .int (wday y m d) u] (getItem (.ref a) (.int (wday y m d) u)) := by with_unfolding_all rfl) :
    wpAny (model prog w) A (subscriptTail value slice (.ref a) (.int (wday y m d) u)) Q E s := by
  obtain ⟨jd, N, b, e1, e2, e3, e4⟩ := day_facts (wday_in y m d).1 (wday_in y m d).2
  obtain ⟨jm, TM, f1, f2, f3⟩ := mon_facts h1 h2
  exact tup_at ht hI e1 e3 (by decide) (fun t => h jd N b t jm TM e1 e2 e4 f1 f2 f3 (days_atoms _ (List.mem_of_getElem? e2)).1) hs
theorem ne_bytes_same {b c : Array UInt8} {t u : Tok} {Q : Value → Shared → Prop} (e : KBw.bInts b = KBw.bInts c) (h : Q (.bool false) s) : wpAny (model prog w) A (compareOp .NotEq (.bytes b t) (.bytes c u)) Q E s :=
  ne_bytes (by rw [bInts_inj e, bne_self_eq_false]; exact h)
theorem add_small {N : PySem.Str} (h : (KStt.codes N).length = 3) : (KStt.codes N).length + [(44 : Int)].length ≤ 16777216 := by rw [h]; decide
theorem clip_take (l : List Int) : List.take (clipAt l.length 4) l = List.take 4 l := by
  have e : clipAt l.length 4 = min 4 l.length := by
    unfold clipAt
    split <;> omega
  rw [e, ← List.take_take, List.take_length]
theorem head_same {x y : Array UInt8} {l r : List Int} (h1 : KBw.bInts x = List.take (clipAt l.length 4) l) (h2 : List.take 4 l = r) (h3 : KBw.bInts y = r) : KBw.bInts x = KBw.bInts y := by
  rw [h1, h3, clip_take, h2]
theorem eq_int_same {a b : Int} {t u : Tok} {Q : Value → Shared → Prop} (e : a = b) (h : Q (.bool true) s) : wpAny (model prog w) A (compareOp .Eq (.int a t) (.int b u)) Q E s :=
  eq_int (by rw [e, beq_self_eq_true]; exact h)
end
theorem Con.mono {d : Nat} {w : World} {f : Addr} {vs : List Value} {news : List (Addr × Obj)} {P P' : Value → List (Addr × Obj) → Prop} (C : Con d w f vs news P) (h : ∀ r tl, P r tl → P' r tl) : Con d w f vs news P' :=
  fun mean mg mb dp un gd cn cs a ccd cl outer A₀ base h₀ L m s Q E B F X N T hk hd hu hret => C mean mg mb dp un gd cn cs a ccd cl outer A₀ base h₀ L m s Q E B F X N T hk hd hu fun r tl h' tk' F' N' O p => hret r tl h' tk' F' N' O (h r tl p)
theorem date_head {N' TM : PySem.Str} {d y : Int} {jd : Nat} (hN : dayNames[jd]? = some N') : (KStt.codes (dateT N' TM d y)).take 4 = KStt.codes N' ++ [44] := by
  obtain ⟨l, _⟩ := days_atoms _ (List.mem_of_getElem? hN)
  obtain ⟨a, b, c, e⟩ := three_of l
  rw [dateT_codes, e]
  rfl
theorem con_wd (w : World) {x md : Addr} {g1 g2 g3 g4 g5 g6 g7 : Int} {k1 k2 k3 k4 k5 k6 k7 t1 t2 t3 t4 t5 t6 t7 : Tok} {y mo d : Int} {jm jd : Nat} {N' TM : PySem.Str} {news : List (Addr × Obj)} (h1 : 1 ≤ y) (h2 : y ≤ 9999) (h5 : 1 ≤ d) (h6 : d ≤ mlen y mo)
   (hjd : wday y mo d = (jd : Int)) (hN : dayNames[jd]? = some N') (hmo : mo = (jm : Int) + 1) (hm : jm < 12) (hTM : monNames[jm]? = some TM) :
   Con 10 w 354 [.ref x] ((x, instObj 161 md) :: (md, dictOf [⟨g1, .str (PySem.Str.ofString "year") k1, .int y t1⟩, ⟨g2, .str (PySem.Str.ofString "month") k2, .int mo t2⟩, ⟨g3, .str (PySem.Str.ofString "day") k3, .int d t3⟩, ⟨g4, .str (PySem.Str.ofString "hour") k4, .int 1 t4⟩, ⟨g5, .str (PySem.Str.ofString "minute") k5, .int 2 t5⟩, ⟨g6, .str (PySem.Str.ofString "second") k6, .int 3 t6⟩, ⟨g7, .str (PySem.Str.ofString "zone") k7, .int 0 t7⟩] 7) :: news)
     (fun r tl => tl = [] ∧ ∃ b t, r = .bytes b t ∧ KBw.bInts b = KStt.codes (dateT N' TM d y) ∧ (KStt.codes (dateT N' TM d y)).length ≤ 1000 ∧ (KStt.codes (dateT N' TM d y)).take 4 = KStt.codes N' ++ [44]) := by
  subst hmo
  have hd31 : d ≤ 31 := Int.le_trans h6 (mlen_in _ _).2
  have z := dateT_len (d := d) (y := y) (days_len _ (List.mem_of_getElem? hN)) (mons_len _ (List.mem_of_getElem? hTM)) (KT.len_num (by omega) (by omega)) (padT_len (n := y) (wd := 4) (by omega) (by omega) (by decide) (by decide))
  rw [Array.length_toList] at z
  have z2 : (KStt.codes (dateT N' TM d y)).length ≤ 1000 := by rw [codes_len]; exact z
  exact Con.mono (con_write_date w (e := ⟨g1, g2, g3, g4, g5, g6, g7, k1, k2, k3, k4, k5, k6, k7, t1, t2, t3, t4, t5, t6, t7⟩) h1 h2 hm h5 h6 hd31 hjd hN hTM) fun r tl ⟨a, b, t, e, f⟩ => ⟨a, b, t, e, f, z2, date_head hN⟩
theorem con_rd (w : World) {b : Array UInt8} {t : Tok} {y mo d : Int} {jm jd : Nat} {N' TM : PySem.Str} {news : List (Addr × Obj)} (hb : KBw.bInts b = KStt.codes (dateT N' TM d y)) (h1 : 1 ≤ y) (h2 : y ≤ 9999) (h5 : 1 ≤ d) (h6 : d ≤ mlen y mo)
   (hN : dayNames[jd]? = some N') (hmo : mo = (jm : Int) + 1) (hm : jm < 12) (hTM : monNames[jm]? = some TM) : Con 10 w 349 [.bytes b t] news (MomOut y mo d) := by
  subst hmo
  obtain ⟨⟨p, K⟩, _, fN, fD, fM, fY, dD, vD, lD, dY, vY, lY⟩ := date_plain (List.mem_of_getElem? hN) (List.mem_of_getElem? hTM) h5 (Int.le_trans h6 (mlen_in _ _).2) h1 h2
  exact con_read_date w b _ p N' _ TM _ jm d y t news hb K (List.mem_of_getElem? hN) hm hTM fN fD fM fY dD vD lD dY vY lY h1 h2 h5 h6
end Mine
end PartL0a
section PartL1
open PySem PySem.W PyProof.Rows PySem.Calls
namespace Mine
theorem forgetL1 : True := by
  k_with_none
  trivial
theorem say_words51 : True := by
  k_with "e_news" => (first | k_asm | (refine' cb_drop ?cbN ?cbS; (case cbN => assumption); (case cbS => kcj_all)))
  k_with "e_con" => ((case k1 => k_asm); (case k2 => k_asm); (case k3 => k_asm); (case k4 => k_asm); (case k5 => k_asm); (case k6 => first | exact rfl | assumption); (case k7 => first | ((simp only [depth_under_make, depth_under_kw, depth_in1, depth_deeper, depth_caller, ktrTop]); omega) | ktr_room); (case k8 => first | ((simp only [units_under_make, units_in1, units_deeper, Around.mark_units, units_caller, ktrTop]); omega) | ktr_units); k_whole)
  k_with "e_con2" => ((case k1 => k_asm); (case k3 => k_asm); (case k5 => k_asm); (case k6 => first | exact rfl | assumption); (case k7 => first | ((simp only [depth_under_make, depth_under_kw, depth_in1, depth_deeper, depth_caller, ktrTop]); omega) | ktr_room); (case k8 => first | ((simp only [units_under_make, units_in1, units_deeper, Around.mark_units, units_caller, ktrTop]); omega) | ktr_units); k_whole)
  k_with "pool" => (first | k_asm | exact cb_drop (by k_asm) (front (pre := [_])) | exact cb_drop (by k_asm) (front (pre := [_, _])) | exact cb_drop (by k_asm) (front (pre := [_, _, _])))
  trivial
section
variable {prog : Program} {w : World} {A : Around} {E : Value → Shared → Prop} {s : Shared}
theorem tup_news {h₀ : Heap} {L a : Addr} {h : Heap} {news : List (Addr × Obj)} {l : List Value} (N : News h₀ L h news) (hm : (a, ({ cls := .type "tuple", data := .seq l.toArray } : Obj)) ∈ news) : IsTup h a l.toArray := ⟨_, (N _ hm).1, rfl, _, rfl⟩
theorem item_menu {Q : Value → Shared → Prop} {ks : List Int} {lo hi : Int} {l : List Value} {value slice : PySem.Expr} {a : Addr} {i : Int} {u : Tok} (ht : IsTup s.heap a l.toArray) (hI : Its (fun (k : Int) u => Value.int k u) ks l) (h0 : 0 ≤ i) (h1 : i < ks.length) (hsz : ks.length < 1000)
    (hb : ∀ k ∈ ks, lo ≤ k ∧ k ≤ hi) (h : ∀ z t, lo ≤ z → z ≤ hi → Q (.int z t) s) (hs : subscripted slice false (.ref a) (.int i u) = operate [.ref a, .int i u] (getItem (.ref a) (.int i u)) := by with_unfolding_all rfl) :
    wpAny (model prog w) A (subscriptTail value slice (.ref a) (.int i u)) Q E s := by
  have hx : ks[i.toNat]? = some (ks[i.toNat]'(by omega)) := List.getElem?_eq_getElem (by omega)
  have b := hb _ (List.mem_of_getElem? hx)
  exact tup_at ht hI (j := i.toNat) (by omega) hx hsz (fun t => h _ t b.1 b.2) hs
/-- what holds behind an if that lets all stand -/
def SameP (h₀ : Heap) (L : Addr) (m : PySem.Str → Option Value) (s : Shared) (news : List (Addr × Obj)) (fl : Flow) (s' : Shared) : Prop :=
  fl = .next ∧ ∃ h' tk', s' = { s with heap := h', toks := tk' } ∧ Fr h₀ L h' m ∧ News h₀ L h' news
theorem same_if {t : Sem Flow} {Q : Flow → Shared → Prop} {h₀ : Heap} {L : Addr} {m : PySem.Str → Option Value} {news : List (Addr × Obj)} (_F : Fr h₀ L s.heap m) (_N : News h₀ L s.heap news)
    (h2 : ∀ h' tk', Fr h₀ L h' m → News h₀ L h' news → Q .next { s with heap := h', toks := tk' }) (h1 : wpAny (model prog w) A t (SameP h₀ L m s news) E s) : wpAny (model prog w) A t Q E s :=
  wpAny_mono h1 (fun fl s' hp => by
    obtain ⟨rfl, h', tk', rfl, F, N⟩ := hp
    exact h2 h' tk' F N) fun _ _ e => e
theorem ne_int_same {a b : Int} {t u : Tok} {Q : Value → Shared → Prop} (e : a = b) (h : Q (.bool false) s) : wpAny (model prog w) A (compareOp .NotEq (.int a t) (.int b u)) Q E s :=
  ne_int (by rw [e, bne_self_eq_false]; exact h)
theorem later_yes {y : Int} (h : leapB (y + 1) = true) : wday (y + 1) 2 (mlen (y + 1) 2) = (wday y 2 (mlen y 2) + 2).fmod 7 := by
  rw [later_law, if_pos h, Int.fmod_eq_emod_of_nonneg _ (by decide)]
theorem later_no {y : Int} (h : leapB (y + 1) = false) : wday (y + 1) 2 (mlen (y + 1) 2) = (wday y 2 (mlen y 2) + 1).fmod 7 := by
  rw [later_law, if_neg (by rw [h]; exact Bool.false_ne_true), Int.fmod_eq_emod_of_nonneg _ (by decide)]
theorem mlen_pos (y m : Int) : 1 ≤ mlen y m := Int.le_trans (by decide) (mlen_in y m).1
theorem mlen_lt (y m : Int) : mlen y m < 100000 := Int.lt_of_le_of_lt (mlen_in y m).2 (by decide)
theorem ints_rep {v : Int} {t : Tok} : ∀ n : Nat, IntsAre (List.replicate n [Value.int v t]).flatten (List.replicate n v)
  | 0 => .nil
  | n + 1 => .cons v t (ints_rep n)
theorem ne_ints_same {h₀ : Heap} {L a b : Addr} {news : List (Addr × Obj)} {vs ws : List Value} {ks js : List Int} {n n' : Nat} {Q : Value → Shared → Prop} (N : News h₀ L s.heap news) (ha : (a, listOf vs.toArray n) ∈ news) (hb : (b, listOf ws.toArray n') ∈ news)
    (h1 : IntsAre vs ks) (h2 : IntsAre ws js) (e : ks = js) (hu : A.units < cLine) (h : Q (.bool false) s) : wpAny (model prog w) A (compareOp .NotEq (.ref a) (.ref b)) Q E s := by
  subst e
  have hsz : vs.toArray.size = ws.toArray.size := by rw [List.size_toArray, List.size_toArray, h1.length, h2.length]
  have hv : (!(List.range vs.toArray.size).all fun _ => true) = false := by simp
  refine SeqAt.RcNeAt.lists (e := fun _ => true) (News.isList N ha) (News.isList N hb) hsz hu (fun j j1 j2 => ?_) prog w E Q (by rw [hv]; exact h)
  have both : ∀ {vs ws : List Value} {ks : List Int}, IntsAre vs ks → IntsAre ws ks → ∀ (j : Nat) (h1 : j < vs.length) (h2 : j < ws.length), ∃ z t u, vs[j] = .int z t ∧ ws[j] = .int z u := by
    intro vs ws ks h1
    induction h1 generalizing ws with
    | nil => intro _ j h1; exact absurd h1 (Nat.not_lt_zero _)
    | cons z t r ih =>
      intro h2 j j1 j2
      cases h2 with
      | cons _ u r2 =>
        cases j with
        | zero => exact ⟨z, t, u, rfl, rfl⟩
        | succ j => exact ih r2 j (by simpa using j1) (by simpa using j2)
  obtain ⟨z, t, u, e1, e2⟩ := both h1 h2 j (by simpa using j1) (by simpa using j2)
  have q := SeqAt.EqAt.int_int (A := A.in1) (s := s) z t z u
  rw [beq_self_eq_true] at q
  simp only [List.getElem_toArray, e1, e2]
  exact q
theorem twins_same (y : Int) : ([((4 : Int), (4 : Int)), (6, 6), (8, 8), (10, 10), (12, 12), (5, 9), (9, 5), (7, 11), (11, 7)].map fun p => wday y p.1 p.2) = List.replicate (Int.toNat 9) (wday y 2 (mlen y 2)) := by
  refine List.eq_replicate_iff.mpr ⟨rfl, fun b hb => ?_⟩
  obtain ⟨p, hp, rfl⟩ := List.mem_map.mp hb
  exact twins_law y p hp
def twins : List (Int × Int) := [(4, 4), (6, 6), (8, 8), (10, 10), (12, 12), (5, 9), (9, 5), (7, 11), (11, 7)]
theorem twins_ok : ∀ p ∈ [((4 : Int), (4 : Int)), (6, 6), (8, 8), (10, 10), (12, 12), (5, 9), (9, 5), (7, 11), (11, 7)], 1 ≤ p.1 ∧ p.1 ≤ 12 := by decide
/-- what holds behind the if that turns the year -/
def YearP (h₀ : Heap) (L : Addr) (m : PySem.Str → Option Value) (s : Shared) (D C a3 a2 a1 : Addr) (oC o3 o2 : Obj) (fl : Flow) (s' : Shared) : Prop :=
  fl = .next ∧ ∃ h' tk' z t oY n g st u v w, s' = { s with heap := h', toks := tk' } ∧ Fr h₀ L h' m ∧ News h₀ L h' [poolO D C n g st 2 u v w, (C, oC), (a3, o3), (a2, o2), (a1, oY)] ∧ oY.data = Data.cell (some (.int z t)) ∧ 1 ≤ z ∧ z ≤ 9599 ∧ 0 ≤ g ∧ 0 ≤ st ∧ st < 2147483647
theorem year_if {t : Sem Flow} {Q : Flow → Shared → Prop} {h₀ : Heap} {L D C a3 a2 a1 : Addr} {m : PySem.Str → Option Value} {oC o3 o2 oY : Obj} {n : Nat} {g st pl : Int} {u v w' : Tok} (_F : Fr h₀ L s.heap m) (_N : News h₀ L s.heap [poolO D C n g st pl u v w', (C, oC), (a3, o3), (a2, o2), (a1, oY)])
    (h1 : wpAny (model prog w) A t (YearP h₀ L m s D C a3 a2 a1 oC o3 o2) E s)
    (h2 : ∀ h' tk' z t oY n g st u v w, Fr h₀ L h' m → News h₀ L h' [poolO D C n g st 2 u v w, (C, oC), (a3, o3), (a2, o2), (a1, oY)] → oY.data = Data.cell (some (.int z t)) → 1 ≤ z → z ≤ 9599 → 0 ≤ g → 0 ≤ st → st < 2147483647 → Q .next { s with heap := h', toks := tk' }) :
    wpAny (model prog w) A t Q E s :=
  wpAny_mono h1 (fun fl s' hp => by
    obtain ⟨rfl, h', tk', z, t, oY, n, g, st, u, v, w, rfl, F, N, d, z1, z2, g0, s0, s1⟩ := hp
    exact h2 h' tk' z t oY n g st u v w F N d z1 z2 g0 s0 s1) fun _ _ e => e
end
section
local macro_rules | `(tactic| k_qdec) => `(tactic| decide +kernel)
local macro_rules | `(tactic| k_ne) => `(tactic| (refine neN ?_; first | assumption | exact Ne.symm (by assumption)))
theorem wordL11 : True := by
  k_with "eval Call~" => (k_here; (with_reducible show wpAny _ _ (eval (Expr.Call (Expr.Name (PySem.Str.ofString _) _) _ _ _) _) _ _ _); k_dflt (refine Call_ ?_))
  trivial
theorem wordL12 : True := by
  k_with "call ref~" => (k_here; (with_reducible show wpAny _ _ (call (Value.ref 359) _) _ _ _); k_dflt (refine' ConL.use (con_law_box _ _ _ _ _ ?c1.wL12 ?c2.wL12) ?k1.wL12 ?k2.wL12 ?k3.wL12 ?k4.wL12 ?k5.wL12 ?k6.wL12 ?k7.wL12 ?k8.wL12 ?hl.wL12 ?_ ?a1.wL12 ?a2.wL12; (case a1 => with_unfolding_all exact rfl); (case a2 => with_unfolding_all exact rfl); (case hl => assumption); (case c1 => assumption); (case c2 => omega); k_extra "e_con"); k_dflt (k_extra "box_post"); (try k_fold))
  trivial
theorem wordL13 : True := by
  k_with "call ref~" => (k_here; (with_reducible show wpAny _ _ (call (Value.ref 366) _) _ _ _); k_dflt (refine' ConU.use (con_law_draw ?mC.wL13 ?hne.wL13 ?hI.wL13 ?hn.wL13 ?g0.wL13 ?s0.wL13 ?s1.wL13 ?p0.wL13 ?p1.wL13 ?m0.wL13 ?m1.wL13) ?k1.wL13 ?k2.wL13 ?k3.wL13 ?k4.wL13 ?k5.wL13 ?k6.wL13 ?k7.wL13 ?k8.wL13 ?_ ?a1.wL13 ?a2.wL13; (case a1 => with_unfolding_all exact rfl); (case a2 => with_unfolding_all exact rfl); (case hI => k_extra "w_iA"); (case hn => k_extra "w_il"); (case k2 => k_asm); (case k4 => k_extra "pool"); (case mC => with_unfolding_all k_mem); (case hne => k_all); (case g0 => assumption); (case s0 => assumption); (case s1 => assumption); (case p0 => decide); (case p1 => decide); (case m0 => first | exact mlen_pos _ _ | omega); (case m1 => first | exact mlen_lt _ _ | omega); k_extra "e_con2"); k_dflt (k_extra "draw_post"); (try k_fold))
  trivial
theorem wordL14 : True := by
  k_with "exec If~" => (k_here; (with_reducible show wpAny _ _ (exec (Stmt.If (Expr.Compare (Expr.Call (Expr.Name (PySem.Str.ofString "_law_draw") _) _ _ _) _ _ _) _ _ _) _) _ _ _); (fail_if_success (with_reducible show wpAny _ _ _ (YearP _ _ _ _ _ _ _ _ _ _ _ _) _ _)); k_dflt (refine' year_if ?k1.wL14 ?k2.wL14 ?yif.wL14 ?rest.wL14; (case k1 => k_asm); (case k2 => k_asm)); (case' rest => k_extra "year_post"))
  trivial
theorem wordL15 : True := by
  k_with "subscriptTail~" => (k_here; (with_reducible show wpAny _ _ (subscriptTail (Expr.Tuple _ _ _) _ (Value.ref _) (Value.int _ _)) _ _ _); k_dflt (refine' item_menu (lo := 4) (hi := 9500) ?ht.wL15 ?hI.wL15 ?h0.wL15 ?h1.wL15 ?hz.wL15 ?hb.wL15 ?_; (case ht => exact tup_news (by k_asm) (by k_mem)); (case hI => exact .cons (.cons (.cons (.cons (.cons (.cons (.cons (.cons .nil)))))))); (case h0 => exact fmod_lo _ (by decide)); (case h1 => exact fmod_hi _ (by decide)); (case hz => decide); (case hb => decide); k_whole); intro z9 t9 zl9 zh9; (try k_fold))
  trivial
theorem wordL16 : True := by
  k_with "YearP~" => (k_here; exact ⟨rfl, _, _, _, _, _, _, _, _, _, _, _, rfl, by k_asm, by first | k_asm | exact cb_drop (by k_asm) (fun p hp => List.Mem.tail _ hp), by assumption, by omega, by omega, by assumption, by assumption, by assumption⟩)
  trivial
theorem wordL17 : True := by
  k_with "call ref~" => (k_here; (with_reducible show wpAny _ _ (call (Value.ref 172) _) _ _ _); k_dflt (refine' Con.plain (con_is_leap _ _ _ _) ?k1.wL17 ?k2.wL17 ?k3.wL17 ?k4.wL17 ?k5.wL17 ?k6.wL17 ?k7.wL17 ?k8.wL17 ?_ ?a1.wL17 ?a2.wL17; (case a1 => with_unfolding_all exact rfl); (case a2 => with_unfolding_all exact rfl); k_extra "e_con"); intro t9 h9 tk9 F9 N9; (try k_fold))
  trivial
theorem wordL18 : True := by
  k_with "call ref~" => (k_here; (with_reducible show wpAny _ _ (call (Value.ref 179) _) _ _ _); k_dflt (refine' Con.plain (con_month_length _ _ _ _ _ _) ?k1.wL18 ?k2.wL18 ?k3.wL18 ?k4.wL18 ?k5.wL18 ?k6.wL18 ?k7.wL18 ?k8.wL18 ?_ ?a1.wL18 ?a2.wL18; (case a1 => with_unfolding_all exact rfl); (case a2 => with_unfolding_all exact rfl); k_extra "e_con"); intro t9 h9 tk9 F9 N9; (try k_fold))
  trivial
theorem wordL19 : True := by
  k_with "call ref~" => (k_here; (with_reducible show wpAny _ _ (call (Value.ref 200) _) _ _ _); k_dflt (refine' Con.plain (con_weekday _ _ _ _ _ _ _ _ ?c1.wL19 ?c2.wL19) ?k1.wL19 ?k2.wL19 ?k3.wL19 ?k4.wL19 ?k5.wL19 ?k6.wL19 ?k7.wL19 ?k8.wL19 ?_ ?a1.wL19 ?a2.wL19; (case c1 => omega); (case c2 => omega); (case a1 => with_unfolding_all exact rfl); (case a2 => with_unfolding_all exact rfl); k_extra "e_con"); intro t9 h9 tk9 F9 N9; (try k_fold))
  trivial
theorem wordL110 : True := by
  k_with "eval ListComp~" => (k_here; (with_reducible show wpAny _ _ (eval (Expr.ListComp _ [⟨Expr.Tuple _ _ _, _, [], _⟩] _ _) _) _ _ _); k_dflt (k_extra "twins_rule"))
  trivial
theorem wordL111 : True := by
  k_with "PairSrc~" => (k_here; k_dflt (refine PairSrc.intro (ps := [(4, 4), (6, 6), (8, 8), (10, 10), (12, 12), (5, 9), (9, 5), (7, 11), (11, 7)]) (by with_unfolding_all exact rfl) (by k_asm) (by k_asm) (tupK (by k_in) (by k_is)) (by repeat (first | exact PairsAt.nil | refine PairsAt.cons (tupK (by k_in) (by k_is)) ?_)) (by decide) ?turn.wL111 ?fin.wL111); (case' turn => (intro g'; unfold PairTurn; intro p' t' u' I' oI' C' oC' D' m' ys' h' tk' E' hp' hC' hx' hy' F' N' off' ne'; (try dsimp only at hx' hy'); (have tw' := twins_ok _ hp'); (try k_fold))); (case' fin => (unfold CodeFin; intro ys' D' h' tk' made' F' N' off'; (try k_fold))))
  trivial
theorem wordL112 : True := by
  k_with "CompEnd~" => (k_here; k_dflt (refine LCg.CompEnd.intro (by k_asm) (by k_asm) _ ?sub.wL112 (by assumption) trivial ?el.wL112; (case el => exact ⟨rfl, _, rfl⟩); (case sub => kcf_all)))
  trivial
theorem wordL113 : True := by
  k_with "compareOp NotEq ref ref~" => (k_here; k_dflt (refine' ne_ints_same ?N.wL113 ?ha.wL113 ?hb.wL113 ?h1.wL113 ?h2.wL113 ?e.wL113 ?hu.wL113 ?_; (case N => k_asm); (case ha => with_unfolding_all k_mem); (case hb => with_unfolding_all k_mem); (case h1 => first | k_extra "ne_h1" | assumption); (case h2 => first | k_extra "ne_h2" | assumption); (case e => first | with_reducible k_extra "ne_e" | k_extra "ne_w"); (case hu => ((simp only [units_under_make, units_in1, units_deeper, Around.mark_units, units_caller, ktrTop]); decide))) )
  trivial
theorem wordL114 : True := by
  k_with "exec If~" => (k_here; (with_reducible show wpAny _ _ (exec (Stmt.If _ [Stmt.Return _ _] _ _) _) _ _ _); (fail_if_success (with_reducible show wpAny _ _ _ (SameP _ _ _ _ _) _ _)); k_dflt (refine' same_if ?k1.wL114 ?k2.wL114 (fun h9 tk9 F9 N9 => ?_) ?_; (case k1 => k_asm); (case k2 => k_asm)))
  trivial
theorem wordL115 : True := by
  k_with "SameP~" => (k_here; exact ⟨rfl, _, _, rfl, by k_asm, by first | k_asm | exact cb_drop (by k_asm) (by intro p9 hp9; repeat (first | exact hp9 | apply List.mem_cons_of_mem))⟩)
  trivial
theorem wordL116 : True := by
  k_with "compareOp NotEq int int~" => (k_here; k_dflt (refine' ne_int_same ?e.wL116 ?_; (case e => first | with_reducible exact years_law _ _ _ | with_reducible exact later_yes (by assumption) | with_reducible exact later_no (by assumption))))
  trivial
theorem wordL117 : True := by
  k_with "subscriptTail~" => (k_here; (with_reducible show wpAny _ _ (subscriptTail (Expr.Tuple _ _ _) _ (Value.ref _) (Value.int (wday _ _ _) _)) _ _ _); k_dflt (refine' item_day ?ht.wL117 ?hI.wL117 ?h1.wL117 ?h2.wL117 ?_; (case ht => exact tup_news (by k_asm) (by k_mem)); (case hI => exact .cons (.cons (.cons (.cons (.cons (.cons (.cons .nil))))))); (case h1 => omega); (case h2 => omega); k_whole); intro jD9 nD9 bD9 tD9 jM9 nM9 eJ9 eN9 eB9 eM9 eL9 eT9 eZ9; (try k_fold))
  trivial
theorem wordL118 : True := by
  k_with "call ref~" => (k_here; (with_reducible show wpAny _ _ (call (Value.ref 354) _) _ _ _); k_dflt (refine' Con.use (con_wd _ ?c1.wL118 ?c2.wL118 ?c3.wL118 ?c4.wL118 ?c5.wL118 ?c6.wL118 ?c7.wL118 ?c8.wL118 ?c9.wL118) ?k1.wL118 ?k2.wL118 ?k3.wL118 ?k4.wL118 ?k5.wL118 ?k6.wL118 ?k7.wL118 ?k8.wL118 ?_ ?a1.wL118 ?a2.wL118; (case a1 => with_unfolding_all exact rfl); (case a2 => with_unfolding_all exact rfl); (case k2 => k_asm); (case k4 => k_asm); (case c1 => omega); (case c2 => omega); (case c3 => omega); (case c4 => omega); (case c5 => with_reducible assumption); (case c6 => with_reducible assumption); (case c7 => with_reducible assumption); (case c8 => with_reducible assumption); (case c9 => with_reducible assumption); k_extra "e_con2"); k_dflt (k_extra "wd_post"); (try k_fold))
  trivial
theorem wordL119 : True := by
  k_with "call ref~" => (k_here; (with_reducible show wpAny _ _ (call (Value.ref 349) _) _ _ _); k_dflt (refine' Con.use (con_rd _ ?c0.wL119 ?c1.wL119 ?c2.wL119 ?c3.wL119 ?c4.wL119 ?c6.wL119 ?c7.wL119 ?c8.wL119 ?c9.wL119) ?k1.wL119 ?k2.wL119 ?k3.wL119 ?k4.wL119 ?k5.wL119 ?k6.wL119 ?k7.wL119 ?k8.wL119 ?_ ?a1.wL119 ?a2.wL119; (case a1 => with_unfolding_all exact rfl); (case a2 => with_unfolding_all exact rfl); (case k2 => k_asm); (case k4 => k_asm); (case c0 => with_reducible assumption); (case c6 => with_reducible assumption); (case c7 => with_reducible assumption); (case c9 => with_reducible assumption); (case c1 => omega); (case c2 => omega); (case c3 => omega); (case c4 => omega); (case c8 => with_reducible assumption); k_extra "e_con2"); k_dflt (k_extra "rd_post"); (try k_fold))
  trivial
theorem wordL120 : True := by
  k_with "binaryOp Add bytes bytes~" => (k_here; k_dflt (refine' KBa.add_K (ls := [44]) ?hb.wL120 ?hc.wL120 ?hz.wL120 ?_; (case hb => with_reducible assumption); (case hc => exact rfl); (case hz => exact add_small (by with_reducible assumption))); intro t9 k9 a9)
  trivial
theorem wordL121 : True := by
  k_with "compareOp NotEq bytes bytes~" => (k_here; k_dflt (refine' ne_bytes_same ?e.wL121 ?_; (case e => exact head_same (by with_reducible assumption) (by with_reducible assumption) (by with_reducible assumption))))
  trivial
theorem law_go : PySem.Challenge.rw_nz0305_01.Holds := Mine.hd (by
  k_with "box_post" => (
    intro r9 tl9 h9 tk9 F9 N9 O9 P9
    obtain ⟨DB, CB, n9, nCB, vsB, ksB, g9, st9, t9, u9, v9, q9, p9, ne9, iAB, ilB, gg9, sl9, sh9⟩ := P9
    subst q9
    subst p9
    simp only [List.cons_append, List.nil_append] at N9
    simp only [List.forall_mem_cons] at O9
    obtain ⟨⟨o1, o2, _⟩, ⟨o3, o4, _⟩, ⟨o5, o6, _⟩, _⟩ := O9)
  k_with "w_iA" => exact iAB
  k_with "w_il" => exact ilB
  k_with "draw_post" => (
    intro r9 nw9 h9 tk9 F9 N9 P9
    obtain ⟨k9, t9, n9, g9, st9, u9, v9, w9, q9, kl9, kh9, gg9, sl9, sh9, p9⟩ := P9
    subst q9
    subst p9)
  k_with "year_post" => (intro hY tkY zY tY oY nY gY stY uY vY wY FY NY dY zY1 zY2 gY0 sY0 sY1)
  k_with "twins_rule" => (refine ListComp_pairs (fun p u => Value.int (wday zY p.1 p.2) u) (F₀ := by k_asm) (by with_unfolding_all rfl) (by decide) (by rfl) (by decide) (by rfl) (by rfl) (by decide) ?_)
  k_with "ne_h1" => ((with_reducible rename Made _ _ _ => hM8); exact (Made.ints (f := fun (p : Int × Int) => wday zY p.1 p.2) hM8))
  k_with "ne_h2" => exact (ints_rep _)
  k_with "ne_e" => exact (twins_same zY)
  k_with "ne_w" => with_reducible exact week_same _ _
  k_with "wd_post" => (
    intro r9 tl9 h9 tk9 F9 N9 O9 P9
    obtain ⟨q9, bW, tW, p9, eW, lW, hW⟩ := P9
    subst q9
    subst p9
    simp only [List.nil_append] at N9
    clear O9)
  k_with "rd_post" => (
    intro r9 tl9 h9 tk9 F9 N9 O9 P9
    obtain ⟨x9, md9, e9, q9, p9, lt9⟩ := P9
    subst q9
    subst p9
    simp only [List.cons_append, List.nil_append] at N9
    clear O9)
  k_go0
  all_goals try k_fold
  k_steps)
end
end Mine
end PartL1
end AllParts
theorem PySem.Challenge.cw_nz0305_01_holds : PySem.Challenge.rw_nz0305_01.Holds := by
  exact Mine.law_go
