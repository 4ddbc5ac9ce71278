import PyProof.Rows.All
import Wide.All
import OpenK.AllK
import Wide.FinOn
import Lean
import PySem.Challenge.RW_nz0300_01
set_option Elab.async false
set_option maxRecDepth 100000
set_option linter.unusedVariables false
section
set_option Elab.async false
set_option maxRecDepth 100000
set_option maxHeartbeats 0
set_option linter.unusedVariables false
namespace Mine
open PySem PySem.W PySem.Calls PyProof.Rows
noncomputable abbrev pwT : Program := PySem.Challenge.pw_nz0300_01
noncomputable def noArgs : Arguments := { posonlyargs := [], args := [], vararg := none, kwonlyargs := [], kw_defaults := [], kwarg := none, defaults := [] }
noncomputable def bodyF (i : Nat) : List Stmt := match pwT.main.body[i]? with | some (.FunctionDef _ _ b _ _ _ _ _ _ _) => b | _ => []
noncomputable def aF (i : Nat) : Arguments := match pwT.main.body[i]? with | some (.FunctionDef _ a _ _ _ _ _ _ _ _) => a | _ => noArgs
noncomputable def sF (i : Nat) : Scope := match pwT.main.body[i]? with | some (.FunctionDef _ _ _ _ _ _ s _ _ _) => s | _ => default
noncomputable def bC (i : Nat) : List Stmt := match pwT.main.body[i]? with | some (.ClassDef _ _ _ l _ _ _ _ _ _ _) => l | _ => []
noncomputable def sC (i : Nat) : Scope := match pwT.main.body[i]? with | some (.ClassDef _ _ _ _ _ _ s _ _ _ _) => s | _ => default
noncomputable def bodyM (i j : Nat) : List Stmt := match (bC i)[j]? with | some (.FunctionDef _ _ b _ _ _ _ _ _ _) => b | _ => []
noncomputable def aM (i j : Nat) : Arguments := match (bC i)[j]? with | some (.FunctionDef _ a _ _ _ _ _ _ _ _) => a | _ => noArgs
noncomputable def sM (i j : Nat) : Scope := match (bC i)[j]? with | some (.FunctionDef _ _ _ _ _ _ s _ _ _) => s | _ => default
noncomputable def lifeT : Life := {}
noncomputable def ob_0 (P : Params) : Obj := ⟨.type "dict", none, .dict #[⟨PyData.keyHash P ("__name__" : Str), .str ("__name__" : Str) 1, .str ("builtins" : Str) 160⟩, ⟨PyData.keyHash P ("__doc__" : Str), .str ("__doc__" : Str) 2, .builtin "builtins.__doc__:str#opaque"⟩, ⟨PyData.keyHash P ("__package__" : Str), .str ("__package__" : Str) 3, .builtin "builtins.__package__:str#opaque"⟩, ⟨PyData.keyHash P ("__loader__" : Str), .str ("__loader__" : Str) 4, .builtin "builtins.__loader__:shared#opaque"⟩, ⟨PyData.keyHash P ("__spec__" : Str), .str ("__spec__" : Str) 5, .builtin "builtins.__spec__#opaque"⟩, ⟨PyData.keyHash P ("__build_class__" : Str), .str ("__build_class__" : Str) 6, .builtin "__build_class__"⟩, ⟨PyData.keyHash P ("__import__" : Str), .str ("__import__" : Str) 7, .builtin "__import__"⟩, ⟨PyData.keyHash P ("abs" : Str), .str ("abs" : Str) 8, .builtin "abs"⟩, ⟨PyData.keyHash P ("all" : Str), .str ("all" : Str) 9, .builtin "all"⟩, ⟨PyData.keyHash P ("any" : Str), .str ("any" : Str) 10, .builtin "any"⟩, ⟨PyData.keyHash P ("ascii" : Str), .str ("ascii" : Str) 11, .builtin "ascii"⟩, ⟨PyData.keyHash P ("bin" : Str), .str ("bin" : Str) 12, .builtin "bin"⟩, ⟨PyData.keyHash P ("breakpoint" : Str), .str ("breakpoint" : Str) 13, .builtin "breakpoint"⟩, ⟨PyData.keyHash P ("callable" : Str), .str ("callable" : Str) 14, .builtin "callable"⟩, ⟨PyData.keyHash P ("chr" : Str), .str ("chr" : Str) 15, .builtin "chr"⟩, ⟨PyData.keyHash P ("compile" : Str), .str ("compile" : Str) 16, .builtin "compile"⟩, ⟨PyData.keyHash P ("delattr" : Str), .str ("delattr" : Str) 17, .builtin "delattr"⟩, ⟨PyData.keyHash P ("dir" : Str), .str ("dir" : Str) 18, .builtin "dir"⟩, ⟨PyData.keyHash P ("divmod" : Str), .str ("divmod" : Str) 19, .builtin "divmod"⟩, ⟨PyData.keyHash P ("eval" : Str), .str ("eval" : Str) 20, .builtin "eval"⟩, ⟨PyData.keyHash P ("exec" : Str), .str ("exec" : Str) 21, .builtin "exec"⟩, ⟨PyData.keyHash P ("format" : Str), .str ("format" : Str) 22, .builtin "format"⟩, ⟨PyData.keyHash P ("getattr" : Str), .str ("getattr" : Str) 23, .builtin "getattr"⟩, ⟨PyData.keyHash P ("globals" : Str), .str ("globals" : Str) 24, .builtin "globals"⟩, ⟨PyData.keyHash P ("hasattr" : Str), .str ("hasattr" : Str) 25, .builtin "hasattr"⟩, ⟨PyData.keyHash P ("hash" : Str), .str ("hash" : Str) 26, .builtin "hash"⟩, ⟨PyData.keyHash P ("hex" : Str), .str ("hex" : Str) 27, .builtin "hex"⟩, ⟨PyData.keyHash P ("id" : Str), .str ("id" : Str) 28, .builtin "id"⟩, ⟨PyData.keyHash P ("input" : Str), .str ("input" : Str) 29, .builtin "input"⟩, ⟨PyData.keyHash P ("isinstance" : Str), .str ("isinstance" : Str) 30, .builtin "isinstance"⟩, ⟨PyData.keyHash P ("issubclass" : Str), .str ("issubclass" : Str) 31, .builtin "issubclass"⟩, ⟨PyData.keyHash P ("iter" : Str), .str ("iter" : Str) 32, .builtin "iter"⟩, ⟨PyData.keyHash P ("aiter" : Str), .str ("aiter" : Str) 33, .builtin "aiter"⟩, ⟨PyData.keyHash P ("len" : Str), .str ("len" : Str) 34, .builtin "len"⟩, ⟨PyData.keyHash P ("locals" : Str), .str ("locals" : Str) 35, .builtin "locals"⟩, ⟨PyData.keyHash P ("max" : Str), .str ("max" : Str) 36, .builtin "max"⟩, ⟨PyData.keyHash P ("min" : Str), .str ("min" : Str) 37, .builtin "min"⟩, ⟨PyData.keyHash P ("next" : Str), .str ("next" : Str) 38, .builtin "next"⟩, ⟨PyData.keyHash P ("anext" : Str), .str ("anext" : Str) 39, .builtin "anext"⟩, ⟨PyData.keyHash P ("oct" : Str), .str ("oct" : Str) 40, .builtin "oct"⟩, ⟨PyData.keyHash P ("ord" : Str), .str ("ord" : Str) 41, .builtin "ord"⟩, ⟨PyData.keyHash P ("pow" : Str), .str ("pow" : Str) 42, .builtin "pow"⟩, ⟨PyData.keyHash P ("print" : Str), .str ("print" : Str) 43, .builtin "print"⟩, ⟨PyData.keyHash P ("repr" : Str), .str ("repr" : Str) 44, .builtin "repr"⟩, ⟨PyData.keyHash P ("round" : Str), .str ("round" : Str) 45, .builtin "round"⟩, ⟨PyData.keyHash P ("setattr" : Str), .str ("setattr" : Str) 46, .builtin "setattr"⟩, ⟨PyData.keyHash P ("sorted" : Str), .str ("sorted" : Str) 47, .builtin "sorted"⟩, ⟨PyData.keyHash P ("sum" : Str), .str ("sum" : Str) 48, .builtin "sum"⟩, ⟨PyData.keyHash P ("vars" : Str), .str ("vars" : Str) 49, .builtin "vars"⟩, ⟨PyData.keyHash P ("None" : Str), .str ("None" : Str) 50, .none⟩, ⟨PyData.keyHash P ("Ellipsis" : Str), .str ("Ellipsis" : Str) 51, .ellipsis⟩, ⟨PyData.keyHash P ("NotImplemented" : Str), .str ("NotImplemented" : Str) 52, .notImplemented⟩, ⟨PyData.keyHash P ("False" : Str), .str ("False" : Str) 53, .bool false⟩, ⟨PyData.keyHash P ("True" : Str), .str ("True" : Str) 54, .bool true⟩, ⟨PyData.keyHash P ("bool" : Str), .str ("bool" : Str) 55, .type "bool"⟩, ⟨PyData.keyHash P ("memoryview" : Str), .str ("memoryview" : Str) 56, .type "memoryview"⟩, ⟨PyData.keyHash P ("bytearray" : Str), .str ("bytearray" : Str) 57, .type "bytearray"⟩, ⟨PyData.keyHash P ("bytes" : Str), .str ("bytes" : Str) 58, .type "bytes"⟩, ⟨PyData.keyHash P ("classmethod" : Str), .str ("classmethod" : Str) 59, .type "classmethod"⟩, ⟨PyData.keyHash P ("complex" : Str), .str ("complex" : Str) 60, .type "complex"⟩, ⟨PyData.keyHash P ("dict" : Str), .str ("dict" : Str) 61, .type "dict"⟩, ⟨PyData.keyHash P ("enumerate" : Str), .str ("enumerate" : Str) 62, .type "enumerate"⟩, ⟨PyData.keyHash P ("filter" : Str), .str ("filter" : Str) 63, .type "filter"⟩, ⟨PyData.keyHash P ("float" : Str), .str ("float" : Str) 64, .type "float"⟩, ⟨PyData.keyHash P ("frozenset" : Str), .str ("frozenset" : Str) 65, .type "frozenset"⟩, ⟨PyData.keyHash P ("property" : Str), .str ("property" : Str) 66, .type "property"⟩, ⟨PyData.keyHash P ("int" : Str), .str ("int" : Str) 67, .type "int"⟩, ⟨PyData.keyHash P ("list" : Str), .str ("list" : Str) 68, .type "list"⟩, ⟨PyData.keyHash P ("map" : Str), .str ("map" : Str) 69, .type "map"⟩, ⟨PyData.keyHash P ("object" : Str), .str ("object" : Str) 70, .type "object"⟩, ⟨PyData.keyHash P ("range" : Str), .str ("range" : Str) 71, .type "range"⟩, ⟨PyData.keyHash P ("reversed" : Str), .str ("reversed" : Str) 72, .type "reversed"⟩, ⟨PyData.keyHash P ("set" : Str), .str ("set" : Str) 73, .type "set"⟩, ⟨PyData.keyHash P ("slice" : Str), .str ("slice" : Str) 74, .type "slice"⟩, ⟨PyData.keyHash P ("staticmethod" : Str), .str ("staticmethod" : Str) 75, .type "staticmethod"⟩, ⟨PyData.keyHash P ("str" : Str), .str ("str" : Str) 76, .type "str"⟩, ⟨PyData.keyHash P ("super" : Str), .str ("super" : Str) 77, .type "super"⟩, ⟨PyData.keyHash P ("tuple" : Str), .str ("tuple" : Str) 78, .type "tuple"⟩, ⟨PyData.keyHash P ("type" : Str), .str ("type" : Str) 79, .type "type"⟩, ⟨PyData.keyHash P ("zip" : Str), .str ("zip" : Str) 80, .type "zip"⟩, ⟨PyData.keyHash P ("__debug__" : Str), .str ("__debug__" : Str) 81, .bool true⟩, ⟨PyData.keyHash P ("BaseException" : Str), .str ("BaseException" : Str) 82, .type "BaseException"⟩, ⟨PyData.keyHash P ("BaseExceptionGroup" : Str), .str ("BaseExceptionGroup" : Str) 83, .type "BaseExceptionGroup"⟩, ⟨PyData.keyHash P ("Exception" : Str), .str ("Exception" : Str) 84, .type "Exception"⟩, ⟨PyData.keyHash P ("GeneratorExit" : Str), .str ("GeneratorExit" : Str) 85, .type "GeneratorExit"⟩, ⟨PyData.keyHash P ("KeyboardInterrupt" : Str), .str ("KeyboardInterrupt" : Str) 86, .type "KeyboardInterrupt"⟩, ⟨PyData.keyHash P ("SystemExit" : Str), .str ("SystemExit" : Str) 87, .type "SystemExit"⟩, ⟨PyData.keyHash P ("ArithmeticError" : Str), .str ("ArithmeticError" : Str) 88, .type "ArithmeticError"⟩, ⟨PyData.keyHash P ("AssertionError" : Str), .str ("AssertionError" : Str) 89, .type "AssertionError"⟩, ⟨PyData.keyHash P ("AttributeError" : Str), .str ("AttributeError" : Str) 90, .type "AttributeError"⟩, ⟨PyData.keyHash P ("BufferError" : Str), .str ("BufferError" : Str) 91, .type "BufferError"⟩, ⟨PyData.keyHash P ("EOFError" : Str), .str ("EOFError" : Str) 92, .type "EOFError"⟩, ⟨PyData.keyHash P ("ImportError" : Str), .str ("ImportError" : Str) 93, .type "ImportError"⟩, ⟨PyData.keyHash P ("LookupError" : Str), .str ("LookupError" : Str) 94, .type "LookupError"⟩, ⟨PyData.keyHash P ("MemoryError" : Str), .str ("MemoryError" : Str) 95, .type "MemoryError"⟩, ⟨PyData.keyHash P ("NameError" : Str), .str ("NameError" : Str) 96, .type "NameError"⟩, ⟨PyData.keyHash P ("OSError" : Str), .str ("OSError" : Str) 97, .type "OSError"⟩, ⟨PyData.keyHash P ("ReferenceError" : Str), .str ("ReferenceError" : Str) 98, .type "ReferenceError"⟩, ⟨PyData.keyHash P ("RuntimeError" : Str), .str ("RuntimeError" : Str) 99, .type "RuntimeError"⟩, ⟨PyData.keyHash P ("StopAsyncIteration" : Str), .str ("StopAsyncIteration" : Str) 100, .type "StopAsyncIteration"⟩, ⟨PyData.keyHash P ("StopIteration" : Str), .str ("StopIteration" : Str) 101, .type "StopIteration"⟩, ⟨PyData.keyHash P ("SyntaxError" : Str), .str ("SyntaxError" : Str) 102, .type "SyntaxError"⟩, ⟨PyData.keyHash P ("SystemError" : Str), .str ("SystemError" : Str) 103, .type "SystemError"⟩, ⟨PyData.keyHash P ("TypeError" : Str), .str ("TypeError" : Str) 104, .type "TypeError"⟩, ⟨PyData.keyHash P ("ValueError" : Str), .str ("ValueError" : Str) 105, .type "ValueError"⟩, ⟨PyData.keyHash P ("Warning" : Str), .str ("Warning" : Str) 106, .type "Warning"⟩, ⟨PyData.keyHash P ("FloatingPointError" : Str), .str ("FloatingPointError" : Str) 107, .type "FloatingPointError"⟩, ⟨PyData.keyHash P ("OverflowError" : Str), .str ("OverflowError" : Str) 108, .type "OverflowError"⟩, ⟨PyData.keyHash P ("ZeroDivisionError" : Str), .str ("ZeroDivisionError" : Str) 109, .type "ZeroDivisionError"⟩, ⟨PyData.keyHash P ("BytesWarning" : Str), .str ("BytesWarning" : Str) 110, .type "BytesWarning"⟩, ⟨PyData.keyHash P ("DeprecationWarning" : Str), .str ("DeprecationWarning" : Str) 111, .type "DeprecationWarning"⟩, ⟨PyData.keyHash P ("EncodingWarning" : Str), .str ("EncodingWarning" : Str) 112, .type "EncodingWarning"⟩, ⟨PyData.keyHash P ("FutureWarning" : Str), .str ("FutureWarning" : Str) 113, .type "FutureWarning"⟩, ⟨PyData.keyHash P ("ImportWarning" : Str), .str ("ImportWarning" : Str) 114, .type "ImportWarning"⟩, ⟨PyData.keyHash P ("PendingDeprecationWarning" : Str), .str ("PendingDeprecationWarning" : Str) 115, .type "PendingDeprecationWarning"⟩, ⟨PyData.keyHash P ("ResourceWarning" : Str), .str ("ResourceWarning" : Str) 116, .type "ResourceWarning"⟩, ⟨PyData.keyHash P ("RuntimeWarning" : Str), .str ("RuntimeWarning" : Str) 117, .type "RuntimeWarning"⟩, ⟨PyData.keyHash P ("SyntaxWarning" : Str), .str ("SyntaxWarning" : Str) 118, .type "SyntaxWarning"⟩, ⟨PyData.keyHash P ("UnicodeWarning" : Str), .str ("UnicodeWarning" : Str) 119, .type "UnicodeWarning"⟩, ⟨PyData.keyHash P ("UserWarning" : Str), .str ("UserWarning" : Str) 120, .type "UserWarning"⟩, ⟨PyData.keyHash P ("BlockingIOError" : Str), .str ("BlockingIOError" : Str) 121, .type "BlockingIOError"⟩, ⟨PyData.keyHash P ("ChildProcessError" : Str), .str ("ChildProcessError" : Str) 122, .type "ChildProcessError"⟩, ⟨PyData.keyHash P ("ConnectionError" : Str), .str ("ConnectionError" : Str) 123, .type "ConnectionError"⟩, ⟨PyData.keyHash P ("FileExistsError" : Str), .str ("FileExistsError" : Str) 124, .type "FileExistsError"⟩, ⟨PyData.keyHash P ("FileNotFoundError" : Str), .str ("FileNotFoundError" : Str) 125, .type "FileNotFoundError"⟩, ⟨PyData.keyHash P ("InterruptedError" : Str), .str ("InterruptedError" : Str) 126, .type "InterruptedError"⟩, ⟨PyData.keyHash P ("IsADirectoryError" : Str), .str ("IsADirectoryError" : Str) 127, .type "IsADirectoryError"⟩, ⟨PyData.keyHash P ("NotADirectoryError" : Str), .str ("NotADirectoryError" : Str) 128, .type "NotADirectoryError"⟩, ⟨PyData.keyHash P ("PermissionError" : Str), .str ("PermissionError" : Str) 129, .type "PermissionError"⟩, ⟨PyData.keyHash P ("ProcessLookupError" : Str), .str ("ProcessLookupError" : Str) 130, .type "ProcessLookupError"⟩, ⟨PyData.keyHash P ("TimeoutError" : Str), .str ("TimeoutError" : Str) 131, .type "TimeoutError"⟩, ⟨PyData.keyHash P ("IndentationError" : Str), .str ("IndentationError" : Str) 132, .type "IndentationError"⟩, ⟨PyData.keyHash P ("_IncompleteInputError" : Str), .str ("_IncompleteInputError" : Str) 133, .type "_IncompleteInputError"⟩, ⟨PyData.keyHash P ("IndexError" : Str), .str ("IndexError" : Str) 134, .type "IndexError"⟩, ⟨PyData.keyHash P ("KeyError" : Str), .str ("KeyError" : Str) 135, .type "KeyError"⟩, ⟨PyData.keyHash P ("ModuleNotFoundError" : Str), .str ("ModuleNotFoundError" : Str) 136, .type "ModuleNotFoundError"⟩, ⟨PyData.keyHash P ("NotImplementedError" : Str), .str ("NotImplementedError" : Str) 137, .type "NotImplementedError"⟩, ⟨PyData.keyHash P ("PythonFinalizationError" : Str), .str ("PythonFinalizationError" : Str) 138, .type "PythonFinalizationError"⟩, ⟨PyData.keyHash P ("RecursionError" : Str), .str ("RecursionError" : Str) 139, .type "RecursionError"⟩, ⟨PyData.keyHash P ("UnboundLocalError" : Str), .str ("UnboundLocalError" : Str) 140, .type "UnboundLocalError"⟩, ⟨PyData.keyHash P ("UnicodeError" : Str), .str ("UnicodeError" : Str) 141, .type "UnicodeError"⟩, ⟨PyData.keyHash P ("BrokenPipeError" : Str), .str ("BrokenPipeError" : Str) 142, .type "BrokenPipeError"⟩, ⟨PyData.keyHash P ("ConnectionAbortedError" : Str), .str ("ConnectionAbortedError" : Str) 143, .type "ConnectionAbortedError"⟩, ⟨PyData.keyHash P ("ConnectionRefusedError" : Str), .str ("ConnectionRefusedError" : Str) 144, .type "ConnectionRefusedError"⟩, ⟨PyData.keyHash P ("ConnectionResetError" : Str), .str ("ConnectionResetError" : Str) 145, .type "ConnectionResetError"⟩, ⟨PyData.keyHash P ("TabError" : Str), .str ("TabError" : Str) 146, .type "TabError"⟩, ⟨PyData.keyHash P ("UnicodeDecodeError" : Str), .str ("UnicodeDecodeError" : Str) 147, .type "UnicodeDecodeError"⟩, ⟨PyData.keyHash P ("UnicodeEncodeError" : Str), .str ("UnicodeEncodeError" : Str) 148, .type "UnicodeEncodeError"⟩, ⟨PyData.keyHash P ("UnicodeTranslateError" : Str), .str ("UnicodeTranslateError" : Str) 149, .type "UnicodeTranslateError"⟩, ⟨PyData.keyHash P ("ExceptionGroup" : Str), .str ("ExceptionGroup" : Str) 150, .type "ExceptionGroup"⟩, ⟨PyData.keyHash P ("EnvironmentError" : Str), .str ("EnvironmentError" : Str) 151, .type "OSError"⟩, ⟨PyData.keyHash P ("IOError" : Str), .str ("IOError" : Str) 152, .type "OSError"⟩, ⟨PyData.keyHash P ("open" : Str), .str ("open" : Str) 153, .builtin "open"⟩, ⟨PyData.keyHash P ("quit" : Str), .str ("quit" : Str) 154, .builtin "builtins.quit#opaque"⟩, ⟨PyData.keyHash P ("exit" : Str), .str ("exit" : Str) 155, .builtin "builtins.exit#opaque"⟩, ⟨PyData.keyHash P ("copyright" : Str), .str ("copyright" : Str) 156, .builtin "builtins.copyright#opaque"⟩, ⟨PyData.keyHash P ("credits" : Str), .str ("credits" : Str) 157, .builtin "builtins.credits#opaque"⟩, ⟨PyData.keyHash P ("license" : Str), .str ("license" : Str) 158, .builtin "builtins.license#opaque"⟩, ⟨PyData.keyHash P ("help" : Str), .str ("help" : Str) 159, .builtin "builtins.help#opaque"⟩] 159, #[]⟩
noncomputable def ob_1 (P : Params) : Obj := ⟨.type "dict", none, .dict #[⟨PyData.keyHash P ("builtins" : Str), .str ("builtins" : Str) 162, .ref 4⟩, ⟨PyData.keyHash P ("__main__" : Str), .str ("__main__" : Str) 163, .ref 5⟩] 2, #[]⟩
noncomputable def ob_2 (P : Params) : Obj := ⟨.none, none, .dict #[⟨PyData.keyHash P ("type.__subclasses__.Exception.0" : Str), .str ("type.__subclasses__.Exception.0" : Str) 225, .int (39) 0⟩, ⟨PyData.keyHash P ("type.__subclasses__.Exception.n" : Str), .str ("type.__subclasses__.Exception.n" : Str) 226, .int (1) 0⟩] 2, #[]⟩
noncomputable def ob_3 (P : Params) : Obj := ⟨.type "dict", none, .dict #[⟨PyData.keyHash P ("__name__" : Str), .str ("__name__" : Str) 165, .str ("law_nz0300_01" : Str) 595⟩, ⟨PyData.keyHash P ("__doc__" : Str), .str ("__doc__" : Str) 166, .none⟩, ⟨PyData.keyHash P ("__package__" : Str), .str ("__package__" : Str) 167, .none⟩, ⟨PyData.keyHash P ("__loader__" : Str), .str ("__loader__" : Str) 168, .builtin "__main__.__loader__#opaque"⟩, ⟨PyData.keyHash P ("__spec__" : Str), .str ("__spec__" : Str) 169, .none⟩, ⟨PyData.keyHash P ("__annotations__" : Str), .str ("__annotations__" : Str) 170, .ref 6⟩, ⟨PyData.keyHash P ("__builtins__" : Str), .str ("__builtins__" : Str) 171, .ref 4⟩, ⟨PyData.keyHash P ("__file__" : Str), .str ("__file__" : Str) 173, .str ("/claim/cut.py" : Str) 172⟩, ⟨PyData.keyHash P ("__cached__" : Str), .str ("__cached__" : Str) 174, .none⟩, ⟨PyData.keyHash P ("PostError" : Str), .str ("PostError" : Str) 228, .ref 39⟩, ⟨PyData.keyHash P ("SetFault" : Str), .str ("SetFault" : Str) 244, .ref 52⟩, ⟨PyData.keyHash P ("ClientFault" : Str), .str ("ClientFault" : Str) 260, .ref 64⟩, ⟨PyData.keyHash P ("ends_of" : Str), .str ("ends_of" : Str) 272, .ref 73⟩, ⟨PyData.keyHash P ("plain_set" : Str), .str ("plain_set" : Str) 286, .ref 80⟩, ⟨PyData.keyHash P ("settled" : Str), .str ("settled" : Str) 294, .ref 87⟩, ⟨PyData.keyHash P ("has" : Str), .str ("has" : Str) 305, .ref 94⟩, ⟨PyData.keyHash P ("numbers_in" : Str), .str ("numbers_in" : Str) 316, .ref 101⟩, ⟨PyData.keyHash P ("size_of" : Str), .str ("size_of" : Str) 326, .ref 108⟩, ⟨PyData.keyHash P ("Atom" : Str), .str ("Atom" : Str) 364, .ref 132⟩, ⟨PyData.keyHash P ("Held" : Str), .str ("Held" : Str) 415, .ref 168⟩, ⟨PyData.keyHash P ("Copy" : Str), .str ("Copy" : Str) 487, .ref 218⟩, ⟨PyData.keyHash P ("take_exists" : Str), .str ("take_exists" : Str) 493, .ref 227⟩, ⟨PyData.keyHash P ("check_uid" : Str), .str ("check_uid" : Str) 504, .ref 234⟩, ⟨PyData.keyHash P ("take_fetch" : Str), .str ("take_fetch" : Str) 510, .ref 239⟩, ⟨PyData.keyHash P ("place_gone" : Str), .str ("place_gone" : Str) 521, .ref 246⟩, ⟨PyData.keyHash P ("blur" : Str), .str ("blur" : Str) 530, .ref 253⟩, ⟨PyData.keyHash P ("drop_uid" : Str), .str ("drop_uid" : Str) 539, .ref 260⟩, ⟨PyData.keyHash P ("uids_of" : Str), .str ("uids_of" : Str) 547, .ref 267⟩, ⟨PyData.keyHash P ("take_vanished" : Str), .str ("take_vanished" : Str) 553, .ref 272⟩, ⟨PyData.keyHash P ("code_word" : Str), .str ("code_word" : Str) 560, .ref 279⟩, ⟨PyData.keyHash P ("code_number" : Str), .str ("code_number" : Str) 567, .ref 286⟩, ⟨PyData.keyHash P ("take_validity" : Str), .str ("take_validity" : Str) 575, .ref 293⟩, ⟨PyData.keyHash P ("take_top" : Str), .str ("take_top" : Str) 584, .ref 300⟩, ⟨PyData.keyHash P ("take_code" : Str), .str ("take_code" : Str) 594, .ref 307⟩, ⟨PyData.keyHash P ("_law_pairs" : Str), .str ("_law_pairs" : Str) 602, .ref 312⟩, ⟨PyData.keyHash P ("_law_know" : Str), .str ("_law_know" : Str) 608, .ref 317⟩, ⟨PyData.keyHash P ("_law_vanish" : Str), .str ("_law_vanish" : Str) 614, .ref 322⟩, ⟨PyData.keyHash P ("_law_answer" : Str), .str ("_law_answer" : Str) 620, .ref 327⟩, ⟨PyData.keyHash P ("law" : Str), .str ("law" : Str) 626, .ref 332⟩] 39, #[]⟩
noncomputable def ob_4 (P : Params) : Obj := ⟨.type "module", (some (0)), .plain, #[]⟩
noncomputable def ob_5 (P : Params) : Obj := ⟨.type "module", (some (3)), .plain, #[]⟩
noncomputable def ob_6 (P : Params) : Obj := ⟨.type "dict", none, .dict #[] 0, #[]⟩
noncomputable def ob_7 (P : Params) : Obj := ⟨.type "tuple", none, .seq #[] 0, #[]⟩
noncomputable def ob_8 (P : Params) : Obj := ⟨.none, none, .fields #[], #[]⟩
noncomputable def ob_9 (P : Params) : Obj := ⟨.type "code", none, .fields #[.str ("<module>" : Str) 176, .str ("<module>" : Str) 177, .str ("/claim/cut.py" : Str) 178, .int (1) 0, .int (0) 0, .int (0) 0, .int (0) 0, .int (0) 0, .ref 7, .bool false, .int (175) 0, .ref 8, .none, .none, .none, .none, .int (179) 0, .int (1) 0, .str ("/claim/cut.py" : Str) 180], #[]⟩
noncomputable def ob_10 (P : Params) : Obj := ⟨.type "frame", none, .plain, #[(some (.ref 9)), (some (.ref 3)), (some (.ref 3)), none, (some (.str ("__main__" : Str) 164)), none, (some (.ref 0))]⟩
noncomputable def ob_11 (P : Params) : Obj := ⟨.type "tuple", none, .seq #[] 0, #[]⟩
noncomputable def ob_12 (P : Params) : Obj := ⟨.none, none, .fields #[.int (2) 0, .int (0) 0, .ref 20, .int (11) 0, .int (0) 0, .ref 48, .int (13) 0, .int (0) 0, .ref 60, .int (16) 0, .int (0) 0, .ref 72, .int (25) 0, .int (0) 0, .ref 79, .int (39) 0, .int (0) 0, .ref 86, .int (44) 0, .int (0) 0, .ref 93, .int (50) 0, .int (0) 0, .ref 100, .int (55) 0, .int (0) 0, .ref 107, .int (61) 0, .int (0) 0, .ref 114, .int (69) 0, .int (0) 0, .ref 142, .int (81) 0, .int (0) 0, .ref 178, .int (124) 0, .int (0) 0, .ref 226, .int (131) 0, .int (0) 0, .ref 233, .int (138) 0, .int (0) 0, .ref 238, .int (149) 0, .int (0) 0, .ref 245, .int (161) 0, .int (0) 0, .ref 252, .int (168) 0, .int (0) 0, .ref 259, .int (173) 0, .int (0) 0, .ref 266, .int (178) 0, .int (0) 0, .ref 271, .int (186) 0, .int (0) 0, .ref 278, .int (190) 0, .int (0) 0, .ref 285, .int (194) 0, .int (0) 0, .ref 292, .int (202) 0, .int (0) 0, .ref 299, .int (209) 0, .int (0) 0, .ref 306, .int (220) 0, .int (0) 0, .ref 311, .int (230) 0, .int (0) 0, .ref 316, .int (239) 0, .int (0) 0, .ref 321, .int (251) 0, .int (0) 0, .ref 326, .int (283) 0, .int (0) 0, .ref 331], #[]⟩
noncomputable def ob_13 (P : Params) : Obj := ⟨.type "code", none, .fields #[.str ("<module>" : Str) 182, .str ("<module>" : Str) 183, .str ("/claim/cut.py" : Str) 184, .int (1) 0, .int (0) 0, .int (0) 0, .int (0) 0, .int (0) 0, .ref 11, .bool false, .int (181) 0, .ref 12, .none, .none, .none, .none, .int (185) 0, .int (1) 0, .str ("/claim/cut.py" : Str) 186], #[]⟩
noncomputable def ob_14 (P : Params) : Obj := ⟨.type "frame", none, .plain, #[(some (.ref 13)), (some (.ref 3)), (some (.ref 3)), none, (some (.str ("__main__" : Str) 164)), none, (some (.ref 0))]⟩
noncomputable def ob_15 (P : Params) : Obj := ⟨.type "tuple", none, .seq #[.type "Exception"] 0, #[]⟩
noncomputable def ob_16 (P : Params) : Obj := ⟨.type "builtin_function_or_method", none, .fields #[.builtin "type.__prepare__", .type "type"], #[]⟩
noncomputable def ob_17 (P : Params) : Obj := ⟨.type "dict", none, .dict #[⟨PyData.keyHash P ("__module__" : Str), .str ("__module__" : Str) 196, .str ("postkeep.errors" : Str) 187⟩, ⟨PyData.keyHash P ("__qualname__" : Str), .str ("__qualname__" : Str) 198, .str ("PostError" : Str) 197⟩, ⟨PyData.keyHash P ("__firstlineno__" : Str), .str ("__firstlineno__" : Str) 200, .int (2) 199⟩, ⟨PyData.keyHash P ("__init__" : Str), .str ("__init__" : Str) 211, .ref 29⟩, ⟨PyData.keyHash P ("told" : Str), .str ("told" : Str) 218, .ref 36⟩, ⟨PyData.keyHash P ("__static_attributes__" : Str), .str ("__static_attributes__" : Str) 221, .ref 37⟩] 6, #[]⟩
noncomputable def ob_18 (P : Params) : Obj := ⟨.type "tuple", none, .seq #[] 0, #[]⟩
noncomputable def ob_19 (P : Params) : Obj := ⟨.none, none, .fields #[.int (4) 0, .int (4) 0, .ref 28, .int (9) 0, .int (4) 0, .ref 35], #[]⟩
noncomputable def ob_20 (P : Params) : Obj := ⟨.type "code", none, .fields #[.str ("PostError" : Str) 191, .str ("PostError" : Str) 192, .str ("/claim/cut.py" : Str) 193, .int (2) 0, .int (0) 0, .int (0) 0, .int (0) 0, .int (0) 0, .ref 18, .bool false, .int (181) 0, .ref 19, .none, .none, .none, .none, .int (194) 0, .int (2) 0, .str ("/claim/cut.py" : Str) 195], #[]⟩
noncomputable def ob_21 (P : Params) : Obj := ⟨.type "frame", none, .plain, #[(some (.ref 20)), (some (.ref 3)), (some (.ref 17)), none, (some (.str ("postkeep.errors" : Str) 187)), none, (some (.ref 0))]⟩
noncomputable def ob_22 (P : Params) : Obj := ⟨.type "tuple", none, .seq #[.int (-1) 202] 0, #[]⟩
noncomputable def ob_23 (P : Params) : Obj := ⟨.type "tuple", none, .seq #[] 0, #[]⟩
noncomputable def ob_24 (P : Params) : Obj := ⟨.none, none, .fields #[], #[]⟩
noncomputable def ob_25 (P : Params) : Obj := ⟨.type "tuple", none, .seq #[.str ("self" : Str) 206, .str ("what" : Str) 207, .str ("at" : Str) 208] 0, #[]⟩
noncomputable def ob_26 (P : Params) : Obj := ⟨.type "tuple", none, .seq #[] 0, #[]⟩
noncomputable def ob_27 (P : Params) : Obj := ⟨.none, none, .func { name := ("__init__" : Str), qualname := ("PostError.__init__" : Str), params := (aM 1 0), body := .stmts (bodyM 1 0), scope := (sM 1 0), globals := 0, closure := [], defaults := .none, kwdefaults := .none, doc := .none, pyModule := .none, annotations := none, code := .none, closureTuple := .none, builtins := 0 }, #[]⟩
noncomputable def ob_28 (P : Params) : Obj := ⟨.type "code", none, .fields #[.str ("__init__" : Str) 203, .str ("PostError.__init__" : Str) 204, .str ("/claim/cut.py" : Str) 205, .int (4) 0, .int (3) 0, .int (0) 0, .int (0) 0, .int (3) 0, .ref 23, .bool true, .int (181) 0, .ref 24, .none, .ref 25, .ref 26, .ref 27, .int (209) 0, .int (4) 0, .str ("/claim/cut.py" : Str) 210], #[]⟩
noncomputable def ob_29 (P : Params) : Obj := ⟨.type "function", none, .func { name := ("__init__" : Str), qualname := ("PostError.__init__" : Str), params := (aM 1 0), body := .stmts (bodyM 1 0), scope := (sM 1 0), globals := 3, closure := [], defaults := .ref 22, kwdefaults := .none, doc := .none, pyModule := .str ("postkeep.errors" : Str) 187, annotations := none, code := .ref 28, closureTuple := .none, builtins := 0 }, #[]⟩
noncomputable def ob_30 (P : Params) : Obj := ⟨.type "tuple", none, .seq #[] 0, #[]⟩
noncomputable def ob_31 (P : Params) : Obj := ⟨.none, none, .fields #[], #[]⟩
noncomputable def ob_32 (P : Params) : Obj := ⟨.type "tuple", none, .seq #[.str ("self" : Str) 215] 0, #[]⟩
noncomputable def ob_33 (P : Params) : Obj := ⟨.type "tuple", none, .seq #[] 0, #[]⟩
noncomputable def ob_34 (P : Params) : Obj := ⟨.none, none, .func { name := ("told" : Str), qualname := ("PostError.told" : Str), params := (aM 1 1), body := .stmts (bodyM 1 1), scope := (sM 1 1), globals := 0, closure := [], defaults := .none, kwdefaults := .none, doc := .none, pyModule := .none, annotations := none, code := .none, closureTuple := .none, builtins := 0 }, #[]⟩
noncomputable def ob_35 (P : Params) : Obj := ⟨.type "code", none, .fields #[.str ("told" : Str) 212, .str ("PostError.told" : Str) 213, .str ("/claim/cut.py" : Str) 214, .int (9) 0, .int (1) 0, .int (0) 0, .int (0) 0, .int (3) 0, .ref 30, .bool true, .int (181) 0, .ref 31, .none, .ref 32, .ref 33, .ref 34, .int (216) 0, .int (9) 0, .str ("/claim/cut.py" : Str) 217], #[]⟩
noncomputable def ob_36 (P : Params) : Obj := ⟨.type "function", none, .func { name := ("told" : Str), qualname := ("PostError.told" : Str), params := (aM 1 1), body := .stmts (bodyM 1 1), scope := (sM 1 1), globals := 3, closure := [], defaults := .none, kwdefaults := .none, doc := .none, pyModule := .str ("postkeep.errors" : Str) 187, annotations := none, code := .ref 35, closureTuple := .none, builtins := 0 }, #[]⟩
noncomputable def ob_37 (P : Params) : Obj := ⟨.type "tuple", none, .seq #[.str ("at" : Str) 219, .str ("what" : Str) 220] 0, #[]⟩
noncomputable def ob_38 (P : Params) : Obj := ⟨.type "dict", none, .dict #[⟨PyData.keyHash P ("__module__" : Str), .str ("__module__" : Str) 196, .str ("postkeep.errors" : Str) 187⟩, ⟨PyData.keyHash P ("__firstlineno__" : Str), .str ("__firstlineno__" : Str) 200, .int (2) 199⟩, ⟨PyData.keyHash P ("__init__" : Str), .str ("__init__" : Str) 211, .ref 29⟩, ⟨PyData.keyHash P ("told" : Str), .str ("told" : Str) 218, .ref 36⟩, ⟨PyData.keyHash P ("__static_attributes__" : Str), .str ("__static_attributes__" : Str) 221, .ref 37⟩, ⟨PyData.keyHash P ("__weakref__" : Str), .str ("__weakref__" : Str) 223, .ref 40⟩, ⟨PyData.keyHash P ("__doc__" : Str), .str ("__doc__" : Str) 224, .none⟩] 3, #[]⟩
noncomputable def ob_39 (P : Params) : Obj := ⟨.type "type", none, .cls { name := ("PostError" : Str), bases := [.type "Exception"], mro := [.ref 39, .type "Exception", .type "BaseException", .type "object"], ns := 38, qualname := ("PostError" : Str), hasDict := true, slotNames := [], subclasses := [.ref 52, .ref 64], abstract := false, collection := none, hasDel := false }, #[(some (.ref 15)), none, (some (.str ("PostError" : Str) 189)), (some (.str ("PostError" : Str) 197)), (some (.builtin "Exception.__new__")), (some (.bool true))]⟩
noncomputable def ob_40 (P : Params) : Obj := ⟨.type "getset_descriptor", none, .fields #[.str ("__weakref__" : Str) 222, .ref 39, .builtin "ExceptionGroup.__weakref__", .none], #[]⟩
noncomputable def ob_41 (P : Params) : Obj := ⟨.type "super", none, .fields #[.ref 39, .ref 39, .ref 39], #[]⟩
noncomputable def ob_42 (P : Params) : Obj := ⟨.type "builtin_function_or_method", none, .fields #[.builtin "object.__init_subclass__", .ref 39], #[]⟩
noncomputable def ob_43 (P : Params) : Obj := ⟨.type "tuple", none, .seq #[.ref 39] 0, #[]⟩
noncomputable def ob_44 (P : Params) : Obj := ⟨.type "builtin_function_or_method", none, .fields #[.builtin "type.__prepare__", .type "type"], #[]⟩
noncomputable def ob_45 (P : Params) : Obj := ⟨.type "dict", none, .dict #[⟨PyData.keyHash P ("__module__" : Str), .str ("__module__" : Str) 236, .str ("postkeep.errors" : Str) 187⟩, ⟨PyData.keyHash P ("__qualname__" : Str), .str ("__qualname__" : Str) 238, .str ("SetFault" : Str) 237⟩, ⟨PyData.keyHash P ("__firstlineno__" : Str), .str ("__firstlineno__" : Str) 240, .int (11) 239⟩, ⟨PyData.keyHash P ("__static_attributes__" : Str), .str ("__static_attributes__" : Str) 241, .ref 50⟩] 4, #[]⟩
noncomputable def ob_46 (P : Params) : Obj := ⟨.type "tuple", none, .seq #[] 0, #[]⟩
noncomputable def ob_47 (P : Params) : Obj := ⟨.none, none, .fields #[], #[]⟩
noncomputable def ob_48 (P : Params) : Obj := ⟨.type "code", none, .fields #[.str ("SetFault" : Str) 231, .str ("SetFault" : Str) 232, .str ("/claim/cut.py" : Str) 233, .int (11) 0, .int (0) 0, .int (0) 0, .int (0) 0, .int (0) 0, .ref 46, .bool false, .int (181) 0, .ref 47, .none, .none, .none, .none, .int (234) 0, .int (11) 0, .str ("/claim/cut.py" : Str) 235], #[]⟩
noncomputable def ob_49 (P : Params) : Obj := ⟨.type "frame", none, .plain, #[(some (.ref 48)), (some (.ref 3)), (some (.ref 45)), none, (some (.str ("postkeep.errors" : Str) 187)), none, (some (.ref 0))]⟩
noncomputable def ob_50 (P : Params) : Obj := ⟨.type "tuple", none, .seq #[] 0, #[]⟩
noncomputable def ob_51 (P : Params) : Obj := ⟨.type "dict", none, .dict #[⟨PyData.keyHash P ("__module__" : Str), .str ("__module__" : Str) 236, .str ("postkeep.errors" : Str) 187⟩, ⟨PyData.keyHash P ("__firstlineno__" : Str), .str ("__firstlineno__" : Str) 240, .int (11) 239⟩, ⟨PyData.keyHash P ("__static_attributes__" : Str), .str ("__static_attributes__" : Str) 241, .ref 50⟩, ⟨PyData.keyHash P ("__doc__" : Str), .str ("__doc__" : Str) 242, .none⟩] 2, #[]⟩
noncomputable def ob_52 (P : Params) : Obj := ⟨.type "type", none, .cls { name := ("SetFault" : Str), bases := [.ref 39], mro := [.ref 52, .ref 39, .type "Exception", .type "BaseException", .type "object"], ns := 51, qualname := ("SetFault" : Str), hasDict := true, slotNames := [], subclasses := [], abstract := false, collection := none, hasDel := false }, #[(some (.ref 43)), none, (some (.str ("SetFault" : Str) 229)), (some (.str ("SetFault" : Str) 237)), (some (.builtin "Exception.__new__")), (some (.bool true))]⟩
noncomputable def ob_53 (P : Params) : Obj := ⟨.type "super", none, .fields #[.ref 52, .ref 52, .ref 52], #[]⟩
noncomputable def ob_54 (P : Params) : Obj := ⟨.type "builtin_function_or_method", none, .fields #[.builtin "object.__init_subclass__", .ref 52], #[]⟩
noncomputable def ob_55 (P : Params) : Obj := ⟨.type "tuple", none, .seq #[.ref 39] 0, #[]⟩
noncomputable def ob_56 (P : Params) : Obj := ⟨.type "builtin_function_or_method", none, .fields #[.builtin "type.__prepare__", .type "type"], #[]⟩
noncomputable def ob_57 (P : Params) : Obj := ⟨.type "dict", none, .dict #[⟨PyData.keyHash P ("__module__" : Str), .str ("__module__" : Str) 252, .str ("postkeep.errors" : Str) 187⟩, ⟨PyData.keyHash P ("__qualname__" : Str), .str ("__qualname__" : Str) 254, .str ("ClientFault" : Str) 253⟩, ⟨PyData.keyHash P ("__firstlineno__" : Str), .str ("__firstlineno__" : Str) 256, .int (13) 255⟩, ⟨PyData.keyHash P ("__static_attributes__" : Str), .str ("__static_attributes__" : Str) 257, .ref 62⟩] 4, #[]⟩
noncomputable def ob_58 (P : Params) : Obj := ⟨.type "tuple", none, .seq #[] 0, #[]⟩
noncomputable def ob_59 (P : Params) : Obj := ⟨.none, none, .fields #[], #[]⟩
noncomputable def ob_60 (P : Params) : Obj := ⟨.type "code", none, .fields #[.str ("ClientFault" : Str) 247, .str ("ClientFault" : Str) 248, .str ("/claim/cut.py" : Str) 249, .int (13) 0, .int (0) 0, .int (0) 0, .int (0) 0, .int (0) 0, .ref 58, .bool false, .int (181) 0, .ref 59, .none, .none, .none, .none, .int (250) 0, .int (13) 0, .str ("/claim/cut.py" : Str) 251], #[]⟩
noncomputable def ob_61 (P : Params) : Obj := ⟨.type "frame", none, .plain, #[(some (.ref 60)), (some (.ref 3)), (some (.ref 57)), none, (some (.str ("postkeep.errors" : Str) 187)), none, (some (.ref 0))]⟩
noncomputable def ob_62 (P : Params) : Obj := ⟨.type "tuple", none, .seq #[] 0, #[]⟩
noncomputable def ob_63 (P : Params) : Obj := ⟨.type "dict", none, .dict #[⟨PyData.keyHash P ("__module__" : Str), .str ("__module__" : Str) 252, .str ("postkeep.errors" : Str) 187⟩, ⟨PyData.keyHash P ("__firstlineno__" : Str), .str ("__firstlineno__" : Str) 256, .int (13) 255⟩, ⟨PyData.keyHash P ("__static_attributes__" : Str), .str ("__static_attributes__" : Str) 257, .ref 62⟩, ⟨PyData.keyHash P ("__doc__" : Str), .str ("__doc__" : Str) 258, .none⟩] 2, #[]⟩
noncomputable def ob_64 (P : Params) : Obj := ⟨.type "type", none, .cls { name := ("ClientFault" : Str), bases := [.ref 39], mro := [.ref 64, .ref 39, .type "Exception", .type "BaseException", .type "object"], ns := 63, qualname := ("ClientFault" : Str), hasDict := true, slotNames := [], subclasses := [], abstract := false, collection := none, hasDel := false }, #[(some (.ref 55)), none, (some (.str ("ClientFault" : Str) 245)), (some (.str ("ClientFault" : Str) 253)), (some (.builtin "Exception.__new__")), (some (.bool true))]⟩
noncomputable def ob_65 (P : Params) : Obj := ⟨.type "super", none, .fields #[.ref 64, .ref 64, .ref 64], #[]⟩
noncomputable def ob_66 (P : Params) : Obj := ⟨.type "builtin_function_or_method", none, .fields #[.builtin "object.__init_subclass__", .ref 64], #[]⟩
noncomputable def ob_67 (P : Params) : Obj := ⟨.type "tuple", none, .seq #[] 0, #[]⟩
noncomputable def ob_68 (P : Params) : Obj := ⟨.none, none, .fields #[], #[]⟩
noncomputable def ob_69 (P : Params) : Obj := ⟨.type "tuple", none, .seq #[.str ("pair" : Str) 266, .str ("greatest" : Str) 267, .str ("low" : Str) 268, .str ("high" : Str) 269] 0, #[]⟩
noncomputable def ob_70 (P : Params) : Obj := ⟨.type "tuple", none, .seq #[] 0, #[]⟩
noncomputable def ob_71 (P : Params) : Obj := ⟨.none, none, .func { name := ("ends_of" : Str), qualname := ("ends_of" : Str), params := (aF 5), body := .stmts (bodyF 5), scope := (sF 5), globals := 0, closure := [], defaults := .none, kwdefaults := .none, doc := .none, pyModule := .none, annotations := none, code := .none, closureTuple := .none, builtins := 0 }, #[]⟩
noncomputable def ob_72 (P : Params) : Obj := ⟨.type "code", none, .fields #[.str ("ends_of" : Str) 263, .str ("ends_of" : Str) 264, .str ("/claim/cut.py" : Str) 265, .int (16) 0, .int (2) 0, .int (0) 0, .int (0) 0, .int (3) 0, .ref 67, .bool true, .int (181) 0, .ref 68, .none, .ref 69, .ref 70, .ref 71, .int (270) 0, .int (16) 0, .str ("/claim/cut.py" : Str) 271], #[]⟩
noncomputable def ob_73 (P : Params) : Obj := ⟨.type "function", none, .func { name := ("ends_of" : Str), qualname := ("ends_of" : Str), params := (aF 5), body := .stmts (bodyF 5), scope := (sF 5), globals := 3, closure := [], defaults := .none, kwdefaults := .none, doc := .none, pyModule := .str ("postkeep.sets" : Str) 261, annotations := none, code := .ref 72, closureTuple := .none, builtins := 0 }, #[]⟩
noncomputable def ob_74 (P : Params) : Obj := ⟨.type "tuple", none, .seq #[] 0, #[]⟩
noncomputable def ob_75 (P : Params) : Obj := ⟨.none, none, .fields #[], #[]⟩
noncomputable def ob_76 (P : Params) : Obj := ⟨.type "tuple", none, .seq #[.str ("some" : Str) 276, .str ("greatest" : Str) 277, .str ("pairs" : Str) 278, .str ("pair" : Str) 279, .str ("ends" : Str) 280, .str ("out" : Str) 281, .str ("low" : Str) 282, .str ("high" : Str) 283] 0, #[]⟩
noncomputable def ob_77 (P : Params) : Obj := ⟨.type "tuple", none, .seq #[] 0, #[]⟩
noncomputable def ob_78 (P : Params) : Obj := ⟨.none, none, .func { name := ("plain_set" : Str), qualname := ("plain_set" : Str), params := (aF 6), body := .stmts (bodyF 6), scope := (sF 6), globals := 0, closure := [], defaults := .none, kwdefaults := .none, doc := .none, pyModule := .none, annotations := none, code := .none, closureTuple := .none, builtins := 0 }, #[]⟩
noncomputable def ob_79 (P : Params) : Obj := ⟨.type "code", none, .fields #[.str ("plain_set" : Str) 273, .str ("plain_set" : Str) 274, .str ("/claim/cut.py" : Str) 275, .int (25) 0, .int (2) 0, .int (0) 0, .int (0) 0, .int (3) 0, .ref 74, .bool true, .int (181) 0, .ref 75, .none, .ref 76, .ref 77, .ref 78, .int (284) 0, .int (25) 0, .str ("/claim/cut.py" : Str) 285], #[]⟩
noncomputable def ob_80 (P : Params) : Obj := ⟨.type "function", none, .func { name := ("plain_set" : Str), qualname := ("plain_set" : Str), params := (aF 6), body := .stmts (bodyF 6), scope := (sF 6), globals := 3, closure := [], defaults := .none, kwdefaults := .none, doc := .none, pyModule := .str ("postkeep.sets" : Str) 261, annotations := none, code := .ref 79, closureTuple := .none, builtins := 0 }, #[]⟩
noncomputable def ob_81 (P : Params) : Obj := ⟨.type "tuple", none, .seq #[] 0, #[]⟩
noncomputable def ob_82 (P : Params) : Obj := ⟨.none, none, .fields #[], #[]⟩
noncomputable def ob_83 (P : Params) : Obj := ⟨.type "tuple", none, .seq #[.str ("some" : Str) 290, .str ("at" : Str) 291] 0, #[]⟩
noncomputable def ob_84 (P : Params) : Obj := ⟨.type "tuple", none, .seq #[] 0, #[]⟩
noncomputable def ob_85 (P : Params) : Obj := ⟨.none, none, .func { name := ("settled" : Str), qualname := ("settled" : Str), params := (aF 7), body := .stmts (bodyF 7), scope := (sF 7), globals := 0, closure := [], defaults := .none, kwdefaults := .none, doc := .none, pyModule := .none, annotations := none, code := .none, closureTuple := .none, builtins := 0 }, #[]⟩
noncomputable def ob_86 (P : Params) : Obj := ⟨.type "code", none, .fields #[.str ("settled" : Str) 287, .str ("settled" : Str) 288, .str ("/claim/cut.py" : Str) 289, .int (39) 0, .int (1) 0, .int (0) 0, .int (0) 0, .int (3) 0, .ref 81, .bool true, .int (181) 0, .ref 82, .none, .ref 83, .ref 84, .ref 85, .int (292) 0, .int (39) 0, .str ("/claim/cut.py" : Str) 293], #[]⟩
noncomputable def ob_87 (P : Params) : Obj := ⟨.type "function", none, .func { name := ("settled" : Str), qualname := ("settled" : Str), params := (aF 7), body := .stmts (bodyF 7), scope := (sF 7), globals := 3, closure := [], defaults := .none, kwdefaults := .none, doc := .none, pyModule := .str ("postkeep.sets" : Str) 261, annotations := none, code := .ref 86, closureTuple := .none, builtins := 0 }, #[]⟩
noncomputable def ob_88 (P : Params) : Obj := ⟨.type "tuple", none, .seq #[] 0, #[]⟩
noncomputable def ob_89 (P : Params) : Obj := ⟨.none, none, .fields #[], #[]⟩
noncomputable def ob_90 (P : Params) : Obj := ⟨.type "tuple", none, .seq #[.str ("some" : Str) 298, .str ("number" : Str) 299, .str ("greatest" : Str) 300, .str ("pair" : Str) 301, .str ("ends" : Str) 302] 0, #[]⟩
noncomputable def ob_91 (P : Params) : Obj := ⟨.type "tuple", none, .seq #[] 0, #[]⟩
noncomputable def ob_92 (P : Params) : Obj := ⟨.none, none, .func { name := ("has" : Str), qualname := ("has" : Str), params := (aF 8), body := .stmts (bodyF 8), scope := (sF 8), globals := 0, closure := [], defaults := .none, kwdefaults := .none, doc := .none, pyModule := .none, annotations := none, code := .none, closureTuple := .none, builtins := 0 }, #[]⟩
noncomputable def ob_93 (P : Params) : Obj := ⟨.type "code", none, .fields #[.str ("has" : Str) 295, .str ("has" : Str) 296, .str ("/claim/cut.py" : Str) 297, .int (44) 0, .int (3) 0, .int (0) 0, .int (0) 0, .int (3) 0, .ref 88, .bool true, .int (181) 0, .ref 89, .none, .ref 90, .ref 91, .ref 92, .int (303) 0, .int (44) 0, .str ("/claim/cut.py" : Str) 304], #[]⟩
noncomputable def ob_94 (P : Params) : Obj := ⟨.type "function", none, .func { name := ("has" : Str), qualname := ("has" : Str), params := (aF 8), body := .stmts (bodyF 8), scope := (sF 8), globals := 3, closure := [], defaults := .none, kwdefaults := .none, doc := .none, pyModule := .str ("postkeep.sets" : Str) 261, annotations := none, code := .ref 93, closureTuple := .none, builtins := 0 }, #[]⟩
noncomputable def ob_95 (P : Params) : Obj := ⟨.type "tuple", none, .seq #[] 0, #[]⟩
noncomputable def ob_96 (P : Params) : Obj := ⟨.none, none, .fields #[], #[]⟩
noncomputable def ob_97 (P : Params) : Obj := ⟨.type "tuple", none, .seq #[.str ("some" : Str) 309, .str ("greatest" : Str) 310, .str ("out" : Str) 311, .str ("low" : Str) 312, .str ("high" : Str) 313] 0, #[]⟩
noncomputable def ob_98 (P : Params) : Obj := ⟨.type "tuple", none, .seq #[] 0, #[]⟩
noncomputable def ob_99 (P : Params) : Obj := ⟨.none, none, .func { name := ("numbers_in" : Str), qualname := ("numbers_in" : Str), params := (aF 9), body := .stmts (bodyF 9), scope := (sF 9), globals := 0, closure := [], defaults := .none, kwdefaults := .none, doc := .none, pyModule := .none, annotations := none, code := .none, closureTuple := .none, builtins := 0 }, #[]⟩
noncomputable def ob_100 (P : Params) : Obj := ⟨.type "code", none, .fields #[.str ("numbers_in" : Str) 306, .str ("numbers_in" : Str) 307, .str ("/claim/cut.py" : Str) 308, .int (50) 0, .int (2) 0, .int (0) 0, .int (0) 0, .int (3) 0, .ref 95, .bool true, .int (181) 0, .ref 96, .none, .ref 97, .ref 98, .ref 99, .int (314) 0, .int (50) 0, .str ("/claim/cut.py" : Str) 315], #[]⟩
noncomputable def ob_101 (P : Params) : Obj := ⟨.type "function", none, .func { name := ("numbers_in" : Str), qualname := ("numbers_in" : Str), params := (aF 9), body := .stmts (bodyF 9), scope := (sF 9), globals := 3, closure := [], defaults := .none, kwdefaults := .none, doc := .none, pyModule := .str ("postkeep.sets" : Str) 261, annotations := none, code := .ref 100, closureTuple := .none, builtins := 0 }, #[]⟩
noncomputable def ob_102 (P : Params) : Obj := ⟨.type "tuple", none, .seq #[] 0, #[]⟩
noncomputable def ob_103 (P : Params) : Obj := ⟨.none, none, .fields #[], #[]⟩
noncomputable def ob_104 (P : Params) : Obj := ⟨.type "tuple", none, .seq #[.str ("some" : Str) 320, .str ("count" : Str) 321, .str ("low" : Str) 322, .str ("high" : Str) 323] 0, #[]⟩
noncomputable def ob_105 (P : Params) : Obj := ⟨.type "tuple", none, .seq #[] 0, #[]⟩
noncomputable def ob_106 (P : Params) : Obj := ⟨.none, none, .func { name := ("size_of" : Str), qualname := ("size_of" : Str), params := (aF 10), body := .stmts (bodyF 10), scope := (sF 10), globals := 0, closure := [], defaults := .none, kwdefaults := .none, doc := .none, pyModule := .none, annotations := none, code := .none, closureTuple := .none, builtins := 0 }, #[]⟩
noncomputable def ob_107 (P : Params) : Obj := ⟨.type "code", none, .fields #[.str ("size_of" : Str) 317, .str ("size_of" : Str) 318, .str ("/claim/cut.py" : Str) 319, .int (55) 0, .int (1) 0, .int (0) 0, .int (0) 0, .int (3) 0, .ref 102, .bool true, .int (181) 0, .ref 103, .none, .ref 104, .ref 105, .ref 106, .int (324) 0, .int (55) 0, .str ("/claim/cut.py" : Str) 325], #[]⟩
noncomputable def ob_108 (P : Params) : Obj := ⟨.type "function", none, .func { name := ("size_of" : Str), qualname := ("size_of" : Str), params := (aF 10), body := .stmts (bodyF 10), scope := (sF 10), globals := 3, closure := [], defaults := .none, kwdefaults := .none, doc := .none, pyModule := .str ("postkeep.sets" : Str) 261, annotations := none, code := .ref 107, closureTuple := .none, builtins := 0 }, #[]⟩
noncomputable def ob_109 (P : Params) : Obj := ⟨.type "tuple", none, .seq #[] 0, #[]⟩
noncomputable def ob_110 (P : Params) : Obj := ⟨.type "builtin_function_or_method", none, .fields #[.builtin "type.__prepare__", .type "type"], #[]⟩
noncomputable def ob_111 (P : Params) : Obj := ⟨.type "dict", none, .dict #[⟨PyData.keyHash P ("__module__" : Str), .str ("__module__" : Str) 336, .str ("postkeep.wire" : Str) 327⟩, ⟨PyData.keyHash P ("__qualname__" : Str), .str ("__qualname__" : Str) 338, .str ("Atom" : Str) 337⟩, ⟨PyData.keyHash P ("__firstlineno__" : Str), .str ("__firstlineno__" : Str) 340, .int (61) 339⟩, ⟨PyData.keyHash P ("__init__" : Str), .str ("__init__" : Str) 348, .ref 122⟩, ⟨PyData.keyHash P ("told" : Str), .str ("told" : Str) 355, .ref 129⟩, ⟨PyData.keyHash P ("__static_attributes__" : Str), .str ("__static_attributes__" : Str) 357, .ref 130⟩] 6, #[]⟩
noncomputable def ob_112 (P : Params) : Obj := ⟨.type "tuple", none, .seq #[] 0, #[]⟩
noncomputable def ob_113 (P : Params) : Obj := ⟨.none, none, .fields #[.int (63) 0, .int (4) 0, .ref 121, .int (66) 0, .int (4) 0, .ref 128], #[]⟩
noncomputable def ob_114 (P : Params) : Obj := ⟨.type "code", none, .fields #[.str ("Atom" : Str) 331, .str ("Atom" : Str) 332, .str ("/claim/cut.py" : Str) 333, .int (61) 0, .int (0) 0, .int (0) 0, .int (0) 0, .int (0) 0, .ref 112, .bool false, .int (181) 0, .ref 113, .none, .none, .none, .none, .int (334) 0, .int (61) 0, .str ("/claim/cut.py" : Str) 335], #[]⟩
noncomputable def ob_115 (P : Params) : Obj := ⟨.type "frame", none, .plain, #[(some (.ref 114)), (some (.ref 3)), (some (.ref 111)), none, (some (.str ("postkeep.wire" : Str) 327)), none, (some (.ref 0))]⟩
noncomputable def ob_116 (P : Params) : Obj := ⟨.type "tuple", none, .seq #[] 0, #[]⟩
noncomputable def ob_117 (P : Params) : Obj := ⟨.none, none, .fields #[], #[]⟩
noncomputable def ob_118 (P : Params) : Obj := ⟨.type "tuple", none, .seq #[.str ("self" : Str) 344, .str ("text" : Str) 345] 0, #[]⟩
noncomputable def ob_119 (P : Params) : Obj := ⟨.type "tuple", none, .seq #[] 0, #[]⟩
noncomputable def ob_120 (P : Params) : Obj := ⟨.none, none, .func { name := ("__init__" : Str), qualname := ("Atom.__init__" : Str), params := (aM 12 0), body := .stmts (bodyM 12 0), scope := (sM 12 0), globals := 0, closure := [], defaults := .none, kwdefaults := .none, doc := .none, pyModule := .none, annotations := none, code := .none, closureTuple := .none, builtins := 0 }, #[]⟩
noncomputable def ob_121 (P : Params) : Obj := ⟨.type "code", none, .fields #[.str ("__init__" : Str) 341, .str ("Atom.__init__" : Str) 342, .str ("/claim/cut.py" : Str) 343, .int (63) 0, .int (2) 0, .int (0) 0, .int (0) 0, .int (3) 0, .ref 116, .bool true, .int (181) 0, .ref 117, .none, .ref 118, .ref 119, .ref 120, .int (346) 0, .int (63) 0, .str ("/claim/cut.py" : Str) 347], #[]⟩
noncomputable def ob_122 (P : Params) : Obj := ⟨.type "function", none, .func { name := ("__init__" : Str), qualname := ("Atom.__init__" : Str), params := (aM 12 0), body := .stmts (bodyM 12 0), scope := (sM 12 0), globals := 3, closure := [], defaults := .none, kwdefaults := .none, doc := .none, pyModule := .str ("postkeep.wire" : Str) 327, annotations := none, code := .ref 121, closureTuple := .none, builtins := 0 }, #[]⟩
noncomputable def ob_123 (P : Params) : Obj := ⟨.type "tuple", none, .seq #[] 0, #[]⟩
noncomputable def ob_124 (P : Params) : Obj := ⟨.none, none, .fields #[], #[]⟩
noncomputable def ob_125 (P : Params) : Obj := ⟨.type "tuple", none, .seq #[.str ("self" : Str) 352] 0, #[]⟩
noncomputable def ob_126 (P : Params) : Obj := ⟨.type "tuple", none, .seq #[] 0, #[]⟩
noncomputable def ob_127 (P : Params) : Obj := ⟨.none, none, .func { name := ("told" : Str), qualname := ("Atom.told" : Str), params := (aM 12 1), body := .stmts (bodyM 12 1), scope := (sM 12 1), globals := 0, closure := [], defaults := .none, kwdefaults := .none, doc := .none, pyModule := .none, annotations := none, code := .none, closureTuple := .none, builtins := 0 }, #[]⟩
noncomputable def ob_128 (P : Params) : Obj := ⟨.type "code", none, .fields #[.str ("told" : Str) 349, .str ("Atom.told" : Str) 350, .str ("/claim/cut.py" : Str) 351, .int (66) 0, .int (1) 0, .int (0) 0, .int (0) 0, .int (3) 0, .ref 123, .bool true, .int (181) 0, .ref 124, .none, .ref 125, .ref 126, .ref 127, .int (353) 0, .int (66) 0, .str ("/claim/cut.py" : Str) 354], #[]⟩
noncomputable def ob_129 (P : Params) : Obj := ⟨.type "function", none, .func { name := ("told" : Str), qualname := ("Atom.told" : Str), params := (aM 12 1), body := .stmts (bodyM 12 1), scope := (sM 12 1), globals := 3, closure := [], defaults := .none, kwdefaults := .none, doc := .none, pyModule := .str ("postkeep.wire" : Str) 327, annotations := none, code := .ref 128, closureTuple := .none, builtins := 0 }, #[]⟩
noncomputable def ob_130 (P : Params) : Obj := ⟨.type "tuple", none, .seq #[.str ("text" : Str) 356] 0, #[]⟩
noncomputable def ob_131 (P : Params) : Obj := ⟨.type "dict", none, .dict #[⟨PyData.keyHash P ("__module__" : Str), .str ("__module__" : Str) 336, .str ("postkeep.wire" : Str) 327⟩, ⟨PyData.keyHash P ("__firstlineno__" : Str), .str ("__firstlineno__" : Str) 340, .int (61) 339⟩, ⟨PyData.keyHash P ("__init__" : Str), .str ("__init__" : Str) 348, .ref 122⟩, ⟨PyData.keyHash P ("told" : Str), .str ("told" : Str) 355, .ref 129⟩, ⟨PyData.keyHash P ("__static_attributes__" : Str), .str ("__static_attributes__" : Str) 357, .ref 130⟩, ⟨PyData.keyHash P ("__dict__" : Str), .str ("__dict__" : Str) 359, .ref 133⟩, ⟨PyData.keyHash P ("__weakref__" : Str), .str ("__weakref__" : Str) 361, .ref 134⟩, ⟨PyData.keyHash P ("__doc__" : Str), .str ("__doc__" : Str) 362, .none⟩] 4, #[]⟩
noncomputable def ob_132 (P : Params) : Obj := ⟨.type "type", none, .cls { name := ("Atom" : Str), bases := [.type "object"], mro := [.ref 132, .type "object"], ns := 131, qualname := ("Atom" : Str), hasDict := true, slotNames := [], subclasses := [], abstract := false, collection := none, hasDel := false }, #[none, none, (some (.str ("Atom" : Str) 329)), (some (.str ("Atom" : Str) 337)), (some (.builtin "object.__new__")), (some (.bool true))]⟩
noncomputable def ob_133 (P : Params) : Obj := ⟨.type "getset_descriptor", none, .fields #[.str ("__dict__" : Str) 358, .ref 132, .builtin "function.__dict__", .builtin "function.__dict__#set"], #[]⟩
noncomputable def ob_134 (P : Params) : Obj := ⟨.type "getset_descriptor", none, .fields #[.str ("__weakref__" : Str) 360, .ref 132, .builtin "ExceptionGroup.__weakref__", .none], #[]⟩
noncomputable def ob_135 (P : Params) : Obj := ⟨.type "super", none, .fields #[.ref 132, .ref 132, .ref 132], #[]⟩
noncomputable def ob_136 (P : Params) : Obj := ⟨.type "builtin_function_or_method", none, .fields #[.builtin "object.__init_subclass__", .ref 132], #[]⟩
noncomputable def ob_137 (P : Params) : Obj := ⟨.type "tuple", none, .seq #[] 0, #[]⟩
noncomputable def ob_138 (P : Params) : Obj := ⟨.type "builtin_function_or_method", none, .fields #[.builtin "type.__prepare__", .type "type"], #[]⟩
noncomputable def ob_139 (P : Params) : Obj := ⟨.type "dict", none, .dict #[⟨PyData.keyHash P ("__module__" : Str), .str ("__module__" : Str) 374, .str ("postkeep.client" : Str) 365⟩, ⟨PyData.keyHash P ("__qualname__" : Str), .str ("__qualname__" : Str) 376, .str ("Held" : Str) 375⟩, ⟨PyData.keyHash P ("__firstlineno__" : Str), .str ("__firstlineno__" : Str) 378, .int (69) 377⟩, ⟨PyData.keyHash P ("__init__" : Str), .str ("__init__" : Str) 390, .ref 151⟩, ⟨PyData.keyHash P ("is_whole" : Str), .str ("is_whole" : Str) 397, .ref 158⟩, ⟨PyData.keyHash P ("told" : Str), .str ("told" : Str) 404, .ref 165⟩, ⟨PyData.keyHash P ("__static_attributes__" : Str), .str ("__static_attributes__" : Str) 408, .ref 166⟩] 7, #[]⟩
noncomputable def ob_140 (P : Params) : Obj := ⟨.type "tuple", none, .seq #[] 0, #[]⟩
noncomputable def ob_141 (P : Params) : Obj := ⟨.none, none, .fields #[.int (71) 0, .int (4) 0, .ref 150, .int (76) 0, .int (4) 0, .ref 157, .int (79) 0, .int (4) 0, .ref 164], #[]⟩
noncomputable def ob_142 (P : Params) : Obj := ⟨.type "code", none, .fields #[.str ("Held" : Str) 369, .str ("Held" : Str) 370, .str ("/claim/cut.py" : Str) 371, .int (69) 0, .int (0) 0, .int (0) 0, .int (0) 0, .int (0) 0, .ref 140, .bool false, .int (181) 0, .ref 141, .none, .none, .none, .none, .int (372) 0, .int (69) 0, .str ("/claim/cut.py" : Str) 373], #[]⟩
noncomputable def ob_143 (P : Params) : Obj := ⟨.type "frame", none, .plain, #[(some (.ref 142)), (some (.ref 3)), (some (.ref 139)), none, (some (.str ("postkeep.client" : Str) 365)), none, (some (.ref 0))]⟩
noncomputable def ob_144 (P : Params) : Obj := ⟨.type "tuple", none, .seq #[.int (0) 379, .none, .int (0) 380] 0, #[]⟩
noncomputable def ob_145 (P : Params) : Obj := ⟨.type "tuple", none, .seq #[] 0, #[]⟩
noncomputable def ob_146 (P : Params) : Obj := ⟨.none, none, .fields #[], #[]⟩
noncomputable def ob_147 (P : Params) : Obj := ⟨.type "tuple", none, .seq #[.str ("self" : Str) 384, .str ("uid" : Str) 385, .str ("flags" : Str) 386, .str ("modseq" : Str) 387] 0, #[]⟩
noncomputable def ob_148 (P : Params) : Obj := ⟨.type "tuple", none, .seq #[] 0, #[]⟩
noncomputable def ob_149 (P : Params) : Obj := ⟨.none, none, .func { name := ("__init__" : Str), qualname := ("Held.__init__" : Str), params := (aM 14 0), body := .stmts (bodyM 14 0), scope := (sM 14 0), globals := 0, closure := [], defaults := .none, kwdefaults := .none, doc := .none, pyModule := .none, annotations := none, code := .none, closureTuple := .none, builtins := 0 }, #[]⟩
noncomputable def ob_150 (P : Params) : Obj := ⟨.type "code", none, .fields #[.str ("__init__" : Str) 381, .str ("Held.__init__" : Str) 382, .str ("/claim/cut.py" : Str) 383, .int (71) 0, .int (4) 0, .int (0) 0, .int (0) 0, .int (3) 0, .ref 145, .bool true, .int (181) 0, .ref 146, .none, .ref 147, .ref 148, .ref 149, .int (388) 0, .int (71) 0, .str ("/claim/cut.py" : Str) 389], #[]⟩
noncomputable def ob_151 (P : Params) : Obj := ⟨.type "function", none, .func { name := ("__init__" : Str), qualname := ("Held.__init__" : Str), params := (aM 14 0), body := .stmts (bodyM 14 0), scope := (sM 14 0), globals := 3, closure := [], defaults := .ref 144, kwdefaults := .none, doc := .none, pyModule := .str ("postkeep.client" : Str) 365, annotations := none, code := .ref 150, closureTuple := .none, builtins := 0 }, #[]⟩
noncomputable def ob_152 (P : Params) : Obj := ⟨.type "tuple", none, .seq #[] 0, #[]⟩
noncomputable def ob_153 (P : Params) : Obj := ⟨.none, none, .fields #[], #[]⟩
noncomputable def ob_154 (P : Params) : Obj := ⟨.type "tuple", none, .seq #[.str ("self" : Str) 394] 0, #[]⟩
noncomputable def ob_155 (P : Params) : Obj := ⟨.type "tuple", none, .seq #[] 0, #[]⟩
noncomputable def ob_156 (P : Params) : Obj := ⟨.none, none, .func { name := ("is_whole" : Str), qualname := ("Held.is_whole" : Str), params := (aM 14 1), body := .stmts (bodyM 14 1), scope := (sM 14 1), globals := 0, closure := [], defaults := .none, kwdefaults := .none, doc := .none, pyModule := .none, annotations := none, code := .none, closureTuple := .none, builtins := 0 }, #[]⟩
noncomputable def ob_157 (P : Params) : Obj := ⟨.type "code", none, .fields #[.str ("is_whole" : Str) 391, .str ("Held.is_whole" : Str) 392, .str ("/claim/cut.py" : Str) 393, .int (76) 0, .int (1) 0, .int (0) 0, .int (0) 0, .int (3) 0, .ref 152, .bool true, .int (181) 0, .ref 153, .none, .ref 154, .ref 155, .ref 156, .int (395) 0, .int (76) 0, .str ("/claim/cut.py" : Str) 396], #[]⟩
noncomputable def ob_158 (P : Params) : Obj := ⟨.type "function", none, .func { name := ("is_whole" : Str), qualname := ("Held.is_whole" : Str), params := (aM 14 1), body := .stmts (bodyM 14 1), scope := (sM 14 1), globals := 3, closure := [], defaults := .none, kwdefaults := .none, doc := .none, pyModule := .str ("postkeep.client" : Str) 365, annotations := none, code := .ref 157, closureTuple := .none, builtins := 0 }, #[]⟩
noncomputable def ob_159 (P : Params) : Obj := ⟨.type "tuple", none, .seq #[] 0, #[]⟩
noncomputable def ob_160 (P : Params) : Obj := ⟨.none, none, .fields #[], #[]⟩
noncomputable def ob_161 (P : Params) : Obj := ⟨.type "tuple", none, .seq #[.str ("self" : Str) 401] 0, #[]⟩
noncomputable def ob_162 (P : Params) : Obj := ⟨.type "tuple", none, .seq #[] 0, #[]⟩
noncomputable def ob_163 (P : Params) : Obj := ⟨.none, none, .func { name := ("told" : Str), qualname := ("Held.told" : Str), params := (aM 14 2), body := .stmts (bodyM 14 2), scope := (sM 14 2), globals := 0, closure := [], defaults := .none, kwdefaults := .none, doc := .none, pyModule := .none, annotations := none, code := .none, closureTuple := .none, builtins := 0 }, #[]⟩
noncomputable def ob_164 (P : Params) : Obj := ⟨.type "code", none, .fields #[.str ("told" : Str) 398, .str ("Held.told" : Str) 399, .str ("/claim/cut.py" : Str) 400, .int (79) 0, .int (1) 0, .int (0) 0, .int (0) 0, .int (3) 0, .ref 159, .bool true, .int (181) 0, .ref 160, .none, .ref 161, .ref 162, .ref 163, .int (402) 0, .int (79) 0, .str ("/claim/cut.py" : Str) 403], #[]⟩
noncomputable def ob_165 (P : Params) : Obj := ⟨.type "function", none, .func { name := ("told" : Str), qualname := ("Held.told" : Str), params := (aM 14 2), body := .stmts (bodyM 14 2), scope := (sM 14 2), globals := 3, closure := [], defaults := .none, kwdefaults := .none, doc := .none, pyModule := .str ("postkeep.client" : Str) 365, annotations := none, code := .ref 164, closureTuple := .none, builtins := 0 }, #[]⟩
noncomputable def ob_166 (P : Params) : Obj := ⟨.type "tuple", none, .seq #[.str ("flags" : Str) 405, .str ("modseq" : Str) 406, .str ("uid" : Str) 407] 0, #[]⟩
noncomputable def ob_167 (P : Params) : Obj := ⟨.type "dict", none, .dict #[⟨PyData.keyHash P ("__module__" : Str), .str ("__module__" : Str) 374, .str ("postkeep.client" : Str) 365⟩, ⟨PyData.keyHash P ("__firstlineno__" : Str), .str ("__firstlineno__" : Str) 378, .int (69) 377⟩, ⟨PyData.keyHash P ("__init__" : Str), .str ("__init__" : Str) 390, .ref 151⟩, ⟨PyData.keyHash P ("is_whole" : Str), .str ("is_whole" : Str) 397, .ref 158⟩, ⟨PyData.keyHash P ("told" : Str), .str ("told" : Str) 404, .ref 165⟩, ⟨PyData.keyHash P ("__static_attributes__" : Str), .str ("__static_attributes__" : Str) 408, .ref 166⟩, ⟨PyData.keyHash P ("__dict__" : Str), .str ("__dict__" : Str) 410, .ref 169⟩, ⟨PyData.keyHash P ("__weakref__" : Str), .str ("__weakref__" : Str) 412, .ref 170⟩, ⟨PyData.keyHash P ("__doc__" : Str), .str ("__doc__" : Str) 413, .none⟩] 4, #[]⟩
noncomputable def ob_168 (P : Params) : Obj := ⟨.type "type", none, .cls { name := ("Held" : Str), bases := [.type "object"], mro := [.ref 168, .type "object"], ns := 167, qualname := ("Held" : Str), hasDict := true, slotNames := [], subclasses := [], abstract := false, collection := none, hasDel := false }, #[none, none, (some (.str ("Held" : Str) 367)), (some (.str ("Held" : Str) 375)), (some (.builtin "object.__new__")), (some (.bool true))]⟩
noncomputable def ob_169 (P : Params) : Obj := ⟨.type "getset_descriptor", none, .fields #[.str ("__dict__" : Str) 409, .ref 168, .builtin "function.__dict__", .builtin "function.__dict__#set"], #[]⟩
noncomputable def ob_170 (P : Params) : Obj := ⟨.type "getset_descriptor", none, .fields #[.str ("__weakref__" : Str) 411, .ref 168, .builtin "ExceptionGroup.__weakref__", .none], #[]⟩
noncomputable def ob_171 (P : Params) : Obj := ⟨.type "super", none, .fields #[.ref 168, .ref 168, .ref 168], #[]⟩
noncomputable def ob_172 (P : Params) : Obj := ⟨.type "builtin_function_or_method", none, .fields #[.builtin "object.__init_subclass__", .ref 168], #[]⟩
noncomputable def ob_173 (P : Params) : Obj := ⟨.type "tuple", none, .seq #[] 0, #[]⟩
noncomputable def ob_174 (P : Params) : Obj := ⟨.type "builtin_function_or_method", none, .fields #[.builtin "type.__prepare__", .type "type"], #[]⟩
noncomputable def ob_175 (P : Params) : Obj := ⟨.type "dict", none, .dict #[⟨PyData.keyHash P ("__module__" : Str), .str ("__module__" : Str) 423, .str ("postkeep.client" : Str) 365⟩, ⟨PyData.keyHash P ("__qualname__" : Str), .str ("__qualname__" : Str) 425, .str ("Copy" : Str) 424⟩, ⟨PyData.keyHash P ("__firstlineno__" : Str), .str ("__firstlineno__" : Str) 427, .int (81) 426⟩, ⟨PyData.keyHash P ("__init__" : Str), .str ("__init__" : Str) 434, .ref 186⟩, ⟨PyData.keyHash P ("uids" : Str), .str ("uids" : Str) 440, .ref 191⟩, ⟨PyData.keyHash P ("row" : Str), .str ("row" : Str) 448, .ref 198⟩, ⟨PyData.keyHash P ("missing" : Str), .str ("missing" : Str) 454, .ref 203⟩, ⟨PyData.keyHash P ("told" : Str), .str ("told" : Str) 460, .ref 208⟩, ⟨PyData.keyHash P ("take" : Str), .str ("take" : Str) 469, .ref 215⟩, ⟨PyData.keyHash P ("__static_attributes__" : Str), .str ("__static_attributes__" : Str) 480, .ref 216⟩] 10, #[]⟩
noncomputable def ob_176 (P : Params) : Obj := ⟨.type "tuple", none, .seq #[] 0, #[]⟩
noncomputable def ob_177 (P : Params) : Obj := ⟨.none, none, .fields #[.int (83) 0, .int (4) 0, .ref 185, .int (95) 0, .int (4) 0, .ref 190, .int (98) 0, .int (4) 0, .ref 197, .int (103) 0, .int (4) 0, .ref 202, .int (106) 0, .int (4) 0, .ref 207, .int (109) 0, .int (4) 0, .ref 214], #[]⟩
noncomputable def ob_178 (P : Params) : Obj := ⟨.type "code", none, .fields #[.str ("Copy" : Str) 418, .str ("Copy" : Str) 419, .str ("/claim/cut.py" : Str) 420, .int (81) 0, .int (0) 0, .int (0) 0, .int (0) 0, .int (0) 0, .ref 176, .bool false, .int (181) 0, .ref 177, .none, .none, .none, .none, .int (421) 0, .int (81) 0, .str ("/claim/cut.py" : Str) 422], #[]⟩
noncomputable def ob_179 (P : Params) : Obj := ⟨.type "frame", none, .plain, #[(some (.ref 178)), (some (.ref 3)), (some (.ref 175)), none, (some (.str ("postkeep.client" : Str) 365)), none, (some (.ref 0))]⟩
noncomputable def ob_180 (P : Params) : Obj := ⟨.type "tuple", none, .seq #[] 0, #[]⟩
noncomputable def ob_181 (P : Params) : Obj := ⟨.none, none, .fields #[], #[]⟩
noncomputable def ob_182 (P : Params) : Obj := ⟨.type "tuple", none, .seq #[.str ("self" : Str) 431] 0, #[]⟩
noncomputable def ob_183 (P : Params) : Obj := ⟨.type "tuple", none, .seq #[] 0, #[]⟩
noncomputable def ob_184 (P : Params) : Obj := ⟨.none, none, .func { name := ("__init__" : Str), qualname := ("Copy.__init__" : Str), params := (aM 15 0), body := .stmts (bodyM 15 0), scope := (sM 15 0), globals := 0, closure := [], defaults := .none, kwdefaults := .none, doc := .none, pyModule := .none, annotations := none, code := .none, closureTuple := .none, builtins := 0 }, #[]⟩
noncomputable def ob_185 (P : Params) : Obj := ⟨.type "code", none, .fields #[.str ("__init__" : Str) 428, .str ("Copy.__init__" : Str) 429, .str ("/claim/cut.py" : Str) 430, .int (83) 0, .int (1) 0, .int (0) 0, .int (0) 0, .int (3) 0, .ref 180, .bool true, .int (181) 0, .ref 181, .none, .ref 182, .ref 183, .ref 184, .int (432) 0, .int (83) 0, .str ("/claim/cut.py" : Str) 433], #[]⟩
noncomputable def ob_186 (P : Params) : Obj := ⟨.type "function", none, .func { name := ("__init__" : Str), qualname := ("Copy.__init__" : Str), params := (aM 15 0), body := .stmts (bodyM 15 0), scope := (sM 15 0), globals := 3, closure := [], defaults := .none, kwdefaults := .none, doc := .none, pyModule := .str ("postkeep.client" : Str) 365, annotations := none, code := .ref 185, closureTuple := .none, builtins := 0 }, #[]⟩
noncomputable def ob_187 (P : Params) : Obj := ⟨.type "tuple", none, .seq #[] 0, #[]⟩
noncomputable def ob_188 (P : Params) : Obj := ⟨.none, none, .fields #[], #[]⟩
noncomputable def ob_189 (P : Params) : Obj := ⟨.none, none, .func { name := ("uids" : Str), qualname := ("Copy.uids" : Str), params := (aM 15 1), body := .stmts (bodyM 15 1), scope := (sM 15 1), globals := 0, closure := [], defaults := .none, kwdefaults := .none, doc := .none, pyModule := .none, annotations := none, code := .none, closureTuple := .none, builtins := 0 }, #[]⟩
noncomputable def ob_190 (P : Params) : Obj := ⟨.type "code", none, .fields #[.str ("uids" : Str) 435, .str ("Copy.uids" : Str) 436, .str ("/claim/cut.py" : Str) 437, .int (95) 0, .int (1) 0, .int (0) 0, .int (0) 0, .int (3) 0, .ref 187, .bool true, .int (181) 0, .ref 188, .none, .none, .none, .ref 189, .int (438) 0, .int (95) 0, .str ("/claim/cut.py" : Str) 439], #[]⟩
noncomputable def ob_191 (P : Params) : Obj := ⟨.type "function", none, .func { name := ("uids" : Str), qualname := ("Copy.uids" : Str), params := (aM 15 1), body := .stmts (bodyM 15 1), scope := (sM 15 1), globals := 3, closure := [], defaults := .none, kwdefaults := .none, doc := .none, pyModule := .str ("postkeep.client" : Str) 365, annotations := none, code := .ref 190, closureTuple := .none, builtins := 0 }, #[]⟩
noncomputable def ob_192 (P : Params) : Obj := ⟨.type "tuple", none, .seq #[] 0, #[]⟩
noncomputable def ob_193 (P : Params) : Obj := ⟨.none, none, .fields #[], #[]⟩
noncomputable def ob_194 (P : Params) : Obj := ⟨.type "tuple", none, .seq #[.str ("self" : Str) 444, .str ("number" : Str) 445] 0, #[]⟩
noncomputable def ob_195 (P : Params) : Obj := ⟨.type "tuple", none, .seq #[] 0, #[]⟩
noncomputable def ob_196 (P : Params) : Obj := ⟨.none, none, .func { name := ("row" : Str), qualname := ("Copy.row" : Str), params := (aM 15 2), body := .stmts (bodyM 15 2), scope := (sM 15 2), globals := 0, closure := [], defaults := .none, kwdefaults := .none, doc := .none, pyModule := .none, annotations := none, code := .none, closureTuple := .none, builtins := 0 }, #[]⟩
noncomputable def ob_197 (P : Params) : Obj := ⟨.type "code", none, .fields #[.str ("row" : Str) 441, .str ("Copy.row" : Str) 442, .str ("/claim/cut.py" : Str) 443, .int (98) 0, .int (2) 0, .int (0) 0, .int (0) 0, .int (3) 0, .ref 192, .bool true, .int (181) 0, .ref 193, .none, .ref 194, .ref 195, .ref 196, .int (446) 0, .int (98) 0, .str ("/claim/cut.py" : Str) 447], #[]⟩
noncomputable def ob_198 (P : Params) : Obj := ⟨.type "function", none, .func { name := ("row" : Str), qualname := ("Copy.row" : Str), params := (aM 15 2), body := .stmts (bodyM 15 2), scope := (sM 15 2), globals := 3, closure := [], defaults := .none, kwdefaults := .none, doc := .none, pyModule := .str ("postkeep.client" : Str) 365, annotations := none, code := .ref 197, closureTuple := .none, builtins := 0 }, #[]⟩
noncomputable def ob_199 (P : Params) : Obj := ⟨.type "tuple", none, .seq #[] 0, #[]⟩
noncomputable def ob_200 (P : Params) : Obj := ⟨.none, none, .fields #[], #[]⟩
noncomputable def ob_201 (P : Params) : Obj := ⟨.none, none, .func { name := ("missing" : Str), qualname := ("Copy.missing" : Str), params := (aM 15 3), body := .stmts (bodyM 15 3), scope := (sM 15 3), globals := 0, closure := [], defaults := .none, kwdefaults := .none, doc := .none, pyModule := .none, annotations := none, code := .none, closureTuple := .none, builtins := 0 }, #[]⟩
noncomputable def ob_202 (P : Params) : Obj := ⟨.type "code", none, .fields #[.str ("missing" : Str) 449, .str ("Copy.missing" : Str) 450, .str ("/claim/cut.py" : Str) 451, .int (103) 0, .int (1) 0, .int (0) 0, .int (0) 0, .int (3) 0, .ref 199, .bool true, .int (181) 0, .ref 200, .none, .none, .none, .ref 201, .int (452) 0, .int (103) 0, .str ("/claim/cut.py" : Str) 453], #[]⟩
noncomputable def ob_203 (P : Params) : Obj := ⟨.type "function", none, .func { name := ("missing" : Str), qualname := ("Copy.missing" : Str), params := (aM 15 3), body := .stmts (bodyM 15 3), scope := (sM 15 3), globals := 3, closure := [], defaults := .none, kwdefaults := .none, doc := .none, pyModule := .str ("postkeep.client" : Str) 365, annotations := none, code := .ref 202, closureTuple := .none, builtins := 0 }, #[]⟩
noncomputable def ob_204 (P : Params) : Obj := ⟨.type "tuple", none, .seq #[] 0, #[]⟩
noncomputable def ob_205 (P : Params) : Obj := ⟨.none, none, .fields #[], #[]⟩
noncomputable def ob_206 (P : Params) : Obj := ⟨.none, none, .func { name := ("told" : Str), qualname := ("Copy.told" : Str), params := (aM 15 4), body := .stmts (bodyM 15 4), scope := (sM 15 4), globals := 0, closure := [], defaults := .none, kwdefaults := .none, doc := .none, pyModule := .none, annotations := none, code := .none, closureTuple := .none, builtins := 0 }, #[]⟩
noncomputable def ob_207 (P : Params) : Obj := ⟨.type "code", none, .fields #[.str ("told" : Str) 455, .str ("Copy.told" : Str) 456, .str ("/claim/cut.py" : Str) 457, .int (106) 0, .int (1) 0, .int (0) 0, .int (0) 0, .int (3) 0, .ref 204, .bool true, .int (181) 0, .ref 205, .none, .none, .none, .ref 206, .int (458) 0, .int (106) 0, .str ("/claim/cut.py" : Str) 459], #[]⟩
noncomputable def ob_208 (P : Params) : Obj := ⟨.type "function", none, .func { name := ("told" : Str), qualname := ("Copy.told" : Str), params := (aM 15 4), body := .stmts (bodyM 15 4), scope := (sM 15 4), globals := 3, closure := [], defaults := .none, kwdefaults := .none, doc := .none, pyModule := .str ("postkeep.client" : Str) 365, annotations := none, code := .ref 207, closureTuple := .none, builtins := 0 }, #[]⟩
noncomputable def ob_209 (P : Params) : Obj := ⟨.type "tuple", none, .seq #[] 0, #[]⟩
noncomputable def ob_210 (P : Params) : Obj := ⟨.none, none, .fields #[], #[]⟩
noncomputable def ob_211 (P : Params) : Obj := ⟨.type "tuple", none, .seq #[.str ("self" : Str) 464, .str ("answer" : Str) 465, .str ("word" : Str) 466] 0, #[]⟩
noncomputable def ob_212 (P : Params) : Obj := ⟨.type "tuple", none, .seq #[] 0, #[]⟩
noncomputable def ob_213 (P : Params) : Obj := ⟨.none, none, .func { name := ("take" : Str), qualname := ("Copy.take" : Str), params := (aM 15 5), body := .stmts (bodyM 15 5), scope := (sM 15 5), globals := 0, closure := [], defaults := .none, kwdefaults := .none, doc := .none, pyModule := .none, annotations := none, code := .none, closureTuple := .none, builtins := 0 }, #[]⟩
noncomputable def ob_214 (P : Params) : Obj := ⟨.type "code", none, .fields #[.str ("take" : Str) 461, .str ("Copy.take" : Str) 462, .str ("/claim/cut.py" : Str) 463, .int (109) 0, .int (2) 0, .int (0) 0, .int (0) 0, .int (3) 0, .ref 209, .bool true, .int (181) 0, .ref 210, .none, .ref 211, .ref 212, .ref 213, .int (467) 0, .int (109) 0, .str ("/claim/cut.py" : Str) 468], #[]⟩
noncomputable def ob_215 (P : Params) : Obj := ⟨.type "function", none, .func { name := ("take" : Str), qualname := ("Copy.take" : Str), params := (aM 15 5), body := .stmts (bodyM 15 5), scope := (sM 15 5), globals := 3, closure := [], defaults := .none, kwdefaults := .none, doc := .none, pyModule := .str ("postkeep.client" : Str) 365, annotations := none, code := .ref 214, closureTuple := .none, builtins := 0 }, #[]⟩
noncomputable def ob_216 (P : Params) : Obj := ⟨.type "tuple", none, .seq #[.str ("box" : Str) 470, .str ("coming_top" : Str) 471, .str ("flag_names" : Str) 472, .str ("is_opening" : Str) 473, .str ("is_readonly" : Str) 474, .str ("kept" : Str) 475, .str ("next_uid" : Str) 476, .str ("rows" : Str) 477, .str ("top" : Str) 478, .str ("validity" : Str) 479] 0, #[]⟩
noncomputable def ob_217 (P : Params) : Obj := ⟨.type "dict", none, .dict #[⟨PyData.keyHash P ("__module__" : Str), .str ("__module__" : Str) 423, .str ("postkeep.client" : Str) 365⟩, ⟨PyData.keyHash P ("__firstlineno__" : Str), .str ("__firstlineno__" : Str) 427, .int (81) 426⟩, ⟨PyData.keyHash P ("__init__" : Str), .str ("__init__" : Str) 434, .ref 186⟩, ⟨PyData.keyHash P ("uids" : Str), .str ("uids" : Str) 440, .ref 191⟩, ⟨PyData.keyHash P ("row" : Str), .str ("row" : Str) 448, .ref 198⟩, ⟨PyData.keyHash P ("missing" : Str), .str ("missing" : Str) 454, .ref 203⟩, ⟨PyData.keyHash P ("told" : Str), .str ("told" : Str) 460, .ref 208⟩, ⟨PyData.keyHash P ("take" : Str), .str ("take" : Str) 469, .ref 215⟩, ⟨PyData.keyHash P ("__static_attributes__" : Str), .str ("__static_attributes__" : Str) 480, .ref 216⟩, ⟨PyData.keyHash P ("__dict__" : Str), .str ("__dict__" : Str) 482, .ref 219⟩, ⟨PyData.keyHash P ("__weakref__" : Str), .str ("__weakref__" : Str) 484, .ref 220⟩, ⟨PyData.keyHash P ("__doc__" : Str), .str ("__doc__" : Str) 485, .none⟩] 4, #[]⟩
noncomputable def ob_218 (P : Params) : Obj := ⟨.type "type", none, .cls { name := ("Copy" : Str), bases := [.type "object"], mro := [.ref 218, .type "object"], ns := 217, qualname := ("Copy" : Str), hasDict := true, slotNames := [], subclasses := [], abstract := false, collection := none, hasDel := false }, #[none, none, (some (.str ("Copy" : Str) 416)), (some (.str ("Copy" : Str) 424)), (some (.builtin "object.__new__")), (some (.bool true))]⟩
noncomputable def ob_219 (P : Params) : Obj := ⟨.type "getset_descriptor", none, .fields #[.str ("__dict__" : Str) 481, .ref 218, .builtin "function.__dict__", .builtin "function.__dict__#set"], #[]⟩
noncomputable def ob_220 (P : Params) : Obj := ⟨.type "getset_descriptor", none, .fields #[.str ("__weakref__" : Str) 483, .ref 218, .builtin "ExceptionGroup.__weakref__", .none], #[]⟩
noncomputable def ob_221 (P : Params) : Obj := ⟨.type "super", none, .fields #[.ref 218, .ref 218, .ref 218], #[]⟩
noncomputable def ob_222 (P : Params) : Obj := ⟨.type "builtin_function_or_method", none, .fields #[.builtin "object.__init_subclass__", .ref 218], #[]⟩
noncomputable def ob_223 (P : Params) : Obj := ⟨.type "tuple", none, .seq #[] 0, #[]⟩
noncomputable def ob_224 (P : Params) : Obj := ⟨.none, none, .fields #[], #[]⟩
noncomputable def ob_225 (P : Params) : Obj := ⟨.none, none, .func { name := ("take_exists" : Str), qualname := ("take_exists" : Str), params := (aF 16), body := .stmts (bodyF 16), scope := (sF 16), globals := 0, closure := [], defaults := .none, kwdefaults := .none, doc := .none, pyModule := .none, annotations := none, code := .none, closureTuple := .none, builtins := 0 }, #[]⟩
noncomputable def ob_226 (P : Params) : Obj := ⟨.type "code", none, .fields #[.str ("take_exists" : Str) 488, .str ("take_exists" : Str) 489, .str ("/claim/cut.py" : Str) 490, .int (124) 0, .int (2) 0, .int (0) 0, .int (0) 0, .int (3) 0, .ref 223, .bool true, .int (181) 0, .ref 224, .none, .none, .none, .ref 225, .int (491) 0, .int (124) 0, .str ("/claim/cut.py" : Str) 492], #[]⟩
noncomputable def ob_227 (P : Params) : Obj := ⟨.type "function", none, .func { name := ("take_exists" : Str), qualname := ("take_exists" : Str), params := (aF 16), body := .stmts (bodyF 16), scope := (sF 16), globals := 3, closure := [], defaults := .none, kwdefaults := .none, doc := .none, pyModule := .str ("postkeep.client" : Str) 365, annotations := none, code := .ref 226, closureTuple := .none, builtins := 0 }, #[]⟩
noncomputable def ob_228 (P : Params) : Obj := ⟨.type "tuple", none, .seq #[] 0, #[]⟩
noncomputable def ob_229 (P : Params) : Obj := ⟨.none, none, .fields #[], #[]⟩
noncomputable def ob_230 (P : Params) : Obj := ⟨.type "tuple", none, .seq #[.str ("copy" : Str) 497, .str ("number" : Str) 498, .str ("uid" : Str) 499, .str ("place" : Str) 500, .str ("other" : Str) 501] 0, #[]⟩
noncomputable def ob_231 (P : Params) : Obj := ⟨.type "tuple", none, .seq #[] 0, #[]⟩
noncomputable def ob_232 (P : Params) : Obj := ⟨.none, none, .func { name := ("check_uid" : Str), qualname := ("check_uid" : Str), params := (aF 17), body := .stmts (bodyF 17), scope := (sF 17), globals := 0, closure := [], defaults := .none, kwdefaults := .none, doc := .none, pyModule := .none, annotations := none, code := .none, closureTuple := .none, builtins := 0 }, #[]⟩
noncomputable def ob_233 (P : Params) : Obj := ⟨.type "code", none, .fields #[.str ("check_uid" : Str) 494, .str ("check_uid" : Str) 495, .str ("/claim/cut.py" : Str) 496, .int (131) 0, .int (3) 0, .int (0) 0, .int (0) 0, .int (3) 0, .ref 228, .bool true, .int (181) 0, .ref 229, .none, .ref 230, .ref 231, .ref 232, .int (502) 0, .int (131) 0, .str ("/claim/cut.py" : Str) 503], #[]⟩
noncomputable def ob_234 (P : Params) : Obj := ⟨.type "function", none, .func { name := ("check_uid" : Str), qualname := ("check_uid" : Str), params := (aF 17), body := .stmts (bodyF 17), scope := (sF 17), globals := 3, closure := [], defaults := .none, kwdefaults := .none, doc := .none, pyModule := .str ("postkeep.client" : Str) 365, annotations := none, code := .ref 233, closureTuple := .none, builtins := 0 }, #[]⟩
noncomputable def ob_235 (P : Params) : Obj := ⟨.type "tuple", none, .seq #[] 0, #[]⟩
noncomputable def ob_236 (P : Params) : Obj := ⟨.none, none, .fields #[], #[]⟩
noncomputable def ob_237 (P : Params) : Obj := ⟨.none, none, .func { name := ("take_fetch" : Str), qualname := ("take_fetch" : Str), params := (aF 18), body := .stmts (bodyF 18), scope := (sF 18), globals := 0, closure := [], defaults := .none, kwdefaults := .none, doc := .none, pyModule := .none, annotations := none, code := .none, closureTuple := .none, builtins := 0 }, #[]⟩
noncomputable def ob_238 (P : Params) : Obj := ⟨.type "code", none, .fields #[.str ("take_fetch" : Str) 505, .str ("take_fetch" : Str) 506, .str ("/claim/cut.py" : Str) 507, .int (138) 0, .int (3) 0, .int (0) 0, .int (0) 0, .int (3) 0, .ref 235, .bool true, .int (181) 0, .ref 236, .none, .none, .none, .ref 237, .int (508) 0, .int (138) 0, .str ("/claim/cut.py" : Str) 509], #[]⟩
noncomputable def ob_239 (P : Params) : Obj := ⟨.type "function", none, .func { name := ("take_fetch" : Str), qualname := ("take_fetch" : Str), params := (aF 18), body := .stmts (bodyF 18), scope := (sF 18), globals := 3, closure := [], defaults := .none, kwdefaults := .none, doc := .none, pyModule := .str ("postkeep.client" : Str) 365, annotations := none, code := .ref 238, closureTuple := .none, builtins := 0 }, #[]⟩
noncomputable def ob_240 (P : Params) : Obj := ⟨.type "tuple", none, .seq #[] 0, #[]⟩
noncomputable def ob_241 (P : Params) : Obj := ⟨.none, none, .fields #[], #[]⟩
noncomputable def ob_242 (P : Params) : Obj := ⟨.type "tuple", none, .seq #[.str ("copy" : Str) 514, .str ("uid" : Str) 515, .str ("unknown" : Str) 516, .str ("place" : Str) 517, .str ("other" : Str) 518] 0, #[]⟩
noncomputable def ob_243 (P : Params) : Obj := ⟨.type "tuple", none, .seq #[] 0, #[]⟩
noncomputable def ob_244 (P : Params) : Obj := ⟨.none, none, .func { name := ("place_gone" : Str), qualname := ("place_gone" : Str), params := (aF 19), body := .stmts (bodyF 19), scope := (sF 19), globals := 0, closure := [], defaults := .none, kwdefaults := .none, doc := .none, pyModule := .none, annotations := none, code := .none, closureTuple := .none, builtins := 0 }, #[]⟩
noncomputable def ob_245 (P : Params) : Obj := ⟨.type "code", none, .fields #[.str ("place_gone" : Str) 511, .str ("place_gone" : Str) 512, .str ("/claim/cut.py" : Str) 513, .int (149) 0, .int (2) 0, .int (0) 0, .int (0) 0, .int (3) 0, .ref 240, .bool true, .int (181) 0, .ref 241, .none, .ref 242, .ref 243, .ref 244, .int (519) 0, .int (149) 0, .str ("/claim/cut.py" : Str) 520], #[]⟩
noncomputable def ob_246 (P : Params) : Obj := ⟨.type "function", none, .func { name := ("place_gone" : Str), qualname := ("place_gone" : Str), params := (aF 19), body := .stmts (bodyF 19), scope := (sF 19), globals := 3, closure := [], defaults := .none, kwdefaults := .none, doc := .none, pyModule := .str ("postkeep.client" : Str) 365, annotations := none, code := .ref 245, closureTuple := .none, builtins := 0 }, #[]⟩
noncomputable def ob_247 (P : Params) : Obj := ⟨.type "tuple", none, .seq #[] 0, #[]⟩
noncomputable def ob_248 (P : Params) : Obj := ⟨.none, none, .fields #[], #[]⟩
noncomputable def ob_249 (P : Params) : Obj := ⟨.type "tuple", none, .seq #[.str ("copy" : Str) 525, .str ("place" : Str) 526, .str ("low" : Str) 527] 0, #[]⟩
noncomputable def ob_250 (P : Params) : Obj := ⟨.type "tuple", none, .seq #[] 0, #[]⟩
noncomputable def ob_251 (P : Params) : Obj := ⟨.none, none, .func { name := ("blur" : Str), qualname := ("blur" : Str), params := (aF 20), body := .stmts (bodyF 20), scope := (sF 20), globals := 0, closure := [], defaults := .none, kwdefaults := .none, doc := .none, pyModule := .none, annotations := none, code := .none, closureTuple := .none, builtins := 0 }, #[]⟩
noncomputable def ob_252 (P : Params) : Obj := ⟨.type "code", none, .fields #[.str ("blur" : Str) 522, .str ("blur" : Str) 523, .str ("/claim/cut.py" : Str) 524, .int (161) 0, .int (2) 0, .int (0) 0, .int (0) 0, .int (3) 0, .ref 247, .bool true, .int (181) 0, .ref 248, .none, .ref 249, .ref 250, .ref 251, .int (528) 0, .int (161) 0, .str ("/claim/cut.py" : Str) 529], #[]⟩
noncomputable def ob_253 (P : Params) : Obj := ⟨.type "function", none, .func { name := ("blur" : Str), qualname := ("blur" : Str), params := (aF 20), body := .stmts (bodyF 20), scope := (sF 20), globals := 3, closure := [], defaults := .none, kwdefaults := .none, doc := .none, pyModule := .str ("postkeep.client" : Str) 365, annotations := none, code := .ref 252, closureTuple := .none, builtins := 0 }, #[]⟩
noncomputable def ob_254 (P : Params) : Obj := ⟨.type "tuple", none, .seq #[] 0, #[]⟩
noncomputable def ob_255 (P : Params) : Obj := ⟨.none, none, .fields #[], #[]⟩
noncomputable def ob_256 (P : Params) : Obj := ⟨.type "tuple", none, .seq #[.str ("copy" : Str) 534, .str ("uid" : Str) 535, .str ("place" : Str) 536] 0, #[]⟩
noncomputable def ob_257 (P : Params) : Obj := ⟨.type "tuple", none, .seq #[] 0, #[]⟩
noncomputable def ob_258 (P : Params) : Obj := ⟨.none, none, .func { name := ("drop_uid" : Str), qualname := ("drop_uid" : Str), params := (aF 21), body := .stmts (bodyF 21), scope := (sF 21), globals := 0, closure := [], defaults := .none, kwdefaults := .none, doc := .none, pyModule := .none, annotations := none, code := .none, closureTuple := .none, builtins := 0 }, #[]⟩
noncomputable def ob_259 (P : Params) : Obj := ⟨.type "code", none, .fields #[.str ("drop_uid" : Str) 531, .str ("drop_uid" : Str) 532, .str ("/claim/cut.py" : Str) 533, .int (168) 0, .int (2) 0, .int (0) 0, .int (0) 0, .int (3) 0, .ref 254, .bool true, .int (181) 0, .ref 255, .none, .ref 256, .ref 257, .ref 258, .int (537) 0, .int (168) 0, .str ("/claim/cut.py" : Str) 538], #[]⟩
noncomputable def ob_260 (P : Params) : Obj := ⟨.type "function", none, .func { name := ("drop_uid" : Str), qualname := ("drop_uid" : Str), params := (aF 21), body := .stmts (bodyF 21), scope := (sF 21), globals := 3, closure := [], defaults := .none, kwdefaults := .none, doc := .none, pyModule := .str ("postkeep.client" : Str) 365, annotations := none, code := .ref 259, closureTuple := .none, builtins := 0 }, #[]⟩
noncomputable def ob_261 (P : Params) : Obj := ⟨.type "tuple", none, .seq #[] 0, #[]⟩
noncomputable def ob_262 (P : Params) : Obj := ⟨.none, none, .fields #[], #[]⟩
noncomputable def ob_263 (P : Params) : Obj := ⟨.type "tuple", none, .seq #[.str ("some" : Str) 543, .str ("pairs" : Str) 544] 0, #[]⟩
noncomputable def ob_264 (P : Params) : Obj := ⟨.type "tuple", none, .seq #[] 0, #[]⟩
noncomputable def ob_265 (P : Params) : Obj := ⟨.none, none, .func { name := ("uids_of" : Str), qualname := ("uids_of" : Str), params := (aF 22), body := .stmts (bodyF 22), scope := (sF 22), globals := 0, closure := [], defaults := .none, kwdefaults := .none, doc := .none, pyModule := .none, annotations := none, code := .none, closureTuple := .none, builtins := 0 }, #[]⟩
noncomputable def ob_266 (P : Params) : Obj := ⟨.type "code", none, .fields #[.str ("uids_of" : Str) 540, .str ("uids_of" : Str) 541, .str ("/claim/cut.py" : Str) 542, .int (173) 0, .int (1) 0, .int (0) 0, .int (0) 0, .int (3) 0, .ref 261, .bool true, .int (181) 0, .ref 262, .none, .ref 263, .ref 264, .ref 265, .int (545) 0, .int (173) 0, .str ("/claim/cut.py" : Str) 546], #[]⟩
noncomputable def ob_267 (P : Params) : Obj := ⟨.type "function", none, .func { name := ("uids_of" : Str), qualname := ("uids_of" : Str), params := (aF 22), body := .stmts (bodyF 22), scope := (sF 22), globals := 3, closure := [], defaults := .none, kwdefaults := .none, doc := .none, pyModule := .str ("postkeep.client" : Str) 365, annotations := none, code := .ref 266, closureTuple := .none, builtins := 0 }, #[]⟩
noncomputable def ob_268 (P : Params) : Obj := ⟨.type "tuple", none, .seq #[] 0, #[]⟩
noncomputable def ob_269 (P : Params) : Obj := ⟨.none, none, .fields #[], #[]⟩
noncomputable def ob_270 (P : Params) : Obj := ⟨.none, none, .func { name := ("take_vanished" : Str), qualname := ("take_vanished" : Str), params := (aF 23), body := .stmts (bodyF 23), scope := (sF 23), globals := 0, closure := [], defaults := .none, kwdefaults := .none, doc := .none, pyModule := .none, annotations := none, code := .none, closureTuple := .none, builtins := 0 }, #[]⟩
noncomputable def ob_271 (P : Params) : Obj := ⟨.type "code", none, .fields #[.str ("take_vanished" : Str) 548, .str ("take_vanished" : Str) 549, .str ("/claim/cut.py" : Str) 550, .int (178) 0, .int (3) 0, .int (0) 0, .int (0) 0, .int (3) 0, .ref 268, .bool true, .int (181) 0, .ref 269, .none, .none, .none, .ref 270, .int (551) 0, .int (178) 0, .str ("/claim/cut.py" : Str) 552], #[]⟩
noncomputable def ob_272 (P : Params) : Obj := ⟨.type "function", none, .func { name := ("take_vanished" : Str), qualname := ("take_vanished" : Str), params := (aF 23), body := .stmts (bodyF 23), scope := (sF 23), globals := 3, closure := [], defaults := .none, kwdefaults := .none, doc := .none, pyModule := .str ("postkeep.client" : Str) 365, annotations := none, code := .ref 271, closureTuple := .none, builtins := 0 }, #[]⟩
noncomputable def ob_273 (P : Params) : Obj := ⟨.type "tuple", none, .seq #[] 0, #[]⟩
noncomputable def ob_274 (P : Params) : Obj := ⟨.none, none, .fields #[], #[]⟩
noncomputable def ob_275 (P : Params) : Obj := ⟨.type "tuple", none, .seq #[.str ("code" : Str) 557] 0, #[]⟩
noncomputable def ob_276 (P : Params) : Obj := ⟨.type "tuple", none, .seq #[] 0, #[]⟩
noncomputable def ob_277 (P : Params) : Obj := ⟨.none, none, .func { name := ("code_word" : Str), qualname := ("code_word" : Str), params := (aF 24), body := .stmts (bodyF 24), scope := (sF 24), globals := 0, closure := [], defaults := .none, kwdefaults := .none, doc := .none, pyModule := .none, annotations := none, code := .none, closureTuple := .none, builtins := 0 }, #[]⟩
noncomputable def ob_278 (P : Params) : Obj := ⟨.type "code", none, .fields #[.str ("code_word" : Str) 554, .str ("code_word" : Str) 555, .str ("/claim/cut.py" : Str) 556, .int (186) 0, .int (1) 0, .int (0) 0, .int (0) 0, .int (3) 0, .ref 273, .bool true, .int (181) 0, .ref 274, .none, .ref 275, .ref 276, .ref 277, .int (558) 0, .int (186) 0, .str ("/claim/cut.py" : Str) 559], #[]⟩
noncomputable def ob_279 (P : Params) : Obj := ⟨.type "function", none, .func { name := ("code_word" : Str), qualname := ("code_word" : Str), params := (aF 24), body := .stmts (bodyF 24), scope := (sF 24), globals := 3, closure := [], defaults := .none, kwdefaults := .none, doc := .none, pyModule := .str ("postkeep.client" : Str) 365, annotations := none, code := .ref 278, closureTuple := .none, builtins := 0 }, #[]⟩
noncomputable def ob_280 (P : Params) : Obj := ⟨.type "tuple", none, .seq #[] 0, #[]⟩
noncomputable def ob_281 (P : Params) : Obj := ⟨.none, none, .fields #[], #[]⟩
noncomputable def ob_282 (P : Params) : Obj := ⟨.type "tuple", none, .seq #[.str ("code" : Str) 564] 0, #[]⟩
noncomputable def ob_283 (P : Params) : Obj := ⟨.type "tuple", none, .seq #[] 0, #[]⟩
noncomputable def ob_284 (P : Params) : Obj := ⟨.none, none, .func { name := ("code_number" : Str), qualname := ("code_number" : Str), params := (aF 25), body := .stmts (bodyF 25), scope := (sF 25), globals := 0, closure := [], defaults := .none, kwdefaults := .none, doc := .none, pyModule := .none, annotations := none, code := .none, closureTuple := .none, builtins := 0 }, #[]⟩
noncomputable def ob_285 (P : Params) : Obj := ⟨.type "code", none, .fields #[.str ("code_number" : Str) 561, .str ("code_number" : Str) 562, .str ("/claim/cut.py" : Str) 563, .int (190) 0, .int (1) 0, .int (0) 0, .int (0) 0, .int (3) 0, .ref 280, .bool true, .int (181) 0, .ref 281, .none, .ref 282, .ref 283, .ref 284, .int (565) 0, .int (190) 0, .str ("/claim/cut.py" : Str) 566], #[]⟩
noncomputable def ob_286 (P : Params) : Obj := ⟨.type "function", none, .func { name := ("code_number" : Str), qualname := ("code_number" : Str), params := (aF 25), body := .stmts (bodyF 25), scope := (sF 25), globals := 3, closure := [], defaults := .none, kwdefaults := .none, doc := .none, pyModule := .str ("postkeep.client" : Str) 365, annotations := none, code := .ref 285, closureTuple := .none, builtins := 0 }, #[]⟩
noncomputable def ob_287 (P : Params) : Obj := ⟨.type "tuple", none, .seq #[] 0, #[]⟩
noncomputable def ob_288 (P : Params) : Obj := ⟨.none, none, .fields #[], #[]⟩
noncomputable def ob_289 (P : Params) : Obj := ⟨.type "tuple", none, .seq #[.str ("copy" : Str) 571, .str ("validity" : Str) 572] 0, #[]⟩
noncomputable def ob_290 (P : Params) : Obj := ⟨.type "tuple", none, .seq #[] 0, #[]⟩
noncomputable def ob_291 (P : Params) : Obj := ⟨.none, none, .func { name := ("take_validity" : Str), qualname := ("take_validity" : Str), params := (aF 26), body := .stmts (bodyF 26), scope := (sF 26), globals := 0, closure := [], defaults := .none, kwdefaults := .none, doc := .none, pyModule := .none, annotations := none, code := .none, closureTuple := .none, builtins := 0 }, #[]⟩
noncomputable def ob_292 (P : Params) : Obj := ⟨.type "code", none, .fields #[.str ("take_validity" : Str) 568, .str ("take_validity" : Str) 569, .str ("/claim/cut.py" : Str) 570, .int (194) 0, .int (2) 0, .int (0) 0, .int (0) 0, .int (3) 0, .ref 287, .bool true, .int (181) 0, .ref 288, .none, .ref 289, .ref 290, .ref 291, .int (573) 0, .int (194) 0, .str ("/claim/cut.py" : Str) 574], #[]⟩
noncomputable def ob_293 (P : Params) : Obj := ⟨.type "function", none, .func { name := ("take_validity" : Str), qualname := ("take_validity" : Str), params := (aF 26), body := .stmts (bodyF 26), scope := (sF 26), globals := 3, closure := [], defaults := .none, kwdefaults := .none, doc := .none, pyModule := .str ("postkeep.client" : Str) 365, annotations := none, code := .ref 292, closureTuple := .none, builtins := 0 }, #[]⟩
noncomputable def ob_294 (P : Params) : Obj := ⟨.type "tuple", none, .seq #[] 0, #[]⟩
noncomputable def ob_295 (P : Params) : Obj := ⟨.none, none, .fields #[], #[]⟩
noncomputable def ob_296 (P : Params) : Obj := ⟨.type "tuple", none, .seq #[.str ("copy" : Str) 579, .str ("is_tagged" : Str) 580, .str ("modseq" : Str) 581] 0, #[]⟩
noncomputable def ob_297 (P : Params) : Obj := ⟨.type "tuple", none, .seq #[] 0, #[]⟩
noncomputable def ob_298 (P : Params) : Obj := ⟨.none, none, .func { name := ("take_top" : Str), qualname := ("take_top" : Str), params := (aF 27), body := .stmts (bodyF 27), scope := (sF 27), globals := 0, closure := [], defaults := .none, kwdefaults := .none, doc := .none, pyModule := .none, annotations := none, code := .none, closureTuple := .none, builtins := 0 }, #[]⟩
noncomputable def ob_299 (P : Params) : Obj := ⟨.type "code", none, .fields #[.str ("take_top" : Str) 576, .str ("take_top" : Str) 577, .str ("/claim/cut.py" : Str) 578, .int (202) 0, .int (3) 0, .int (0) 0, .int (0) 0, .int (3) 0, .ref 294, .bool true, .int (181) 0, .ref 295, .none, .ref 296, .ref 297, .ref 298, .int (582) 0, .int (202) 0, .str ("/claim/cut.py" : Str) 583], #[]⟩
noncomputable def ob_300 (P : Params) : Obj := ⟨.type "function", none, .func { name := ("take_top" : Str), qualname := ("take_top" : Str), params := (aF 27), body := .stmts (bodyF 27), scope := (sF 27), globals := 3, closure := [], defaults := .none, kwdefaults := .none, doc := .none, pyModule := .str ("postkeep.client" : Str) 365, annotations := none, code := .ref 299, closureTuple := .none, builtins := 0 }, #[]⟩
noncomputable def ob_301 (P : Params) : Obj := ⟨.type "tuple", none, .seq #[] 0, #[]⟩
noncomputable def ob_302 (P : Params) : Obj := ⟨.none, none, .fields #[], #[]⟩
noncomputable def ob_303 (P : Params) : Obj := ⟨.type "tuple", none, .seq #[.str ("copy" : Str) 588, .str ("is_tagged" : Str) 589, .str ("code" : Str) 590, .str ("word" : Str) 591] 0, #[]⟩
noncomputable def ob_304 (P : Params) : Obj := ⟨.type "tuple", none, .seq #[] 0, #[]⟩
noncomputable def ob_305 (P : Params) : Obj := ⟨.none, none, .func { name := ("take_code" : Str), qualname := ("take_code" : Str), params := (aF 28), body := .stmts (bodyF 28), scope := (sF 28), globals := 0, closure := [], defaults := .none, kwdefaults := .none, doc := .none, pyModule := .none, annotations := none, code := .none, closureTuple := .none, builtins := 0 }, #[]⟩
noncomputable def ob_306 (P : Params) : Obj := ⟨.type "code", none, .fields #[.str ("take_code" : Str) 585, .str ("take_code" : Str) 586, .str ("/claim/cut.py" : Str) 587, .int (209) 0, .int (3) 0, .int (0) 0, .int (0) 0, .int (3) 0, .ref 301, .bool true, .int (181) 0, .ref 302, .none, .ref 303, .ref 304, .ref 305, .int (592) 0, .int (209) 0, .str ("/claim/cut.py" : Str) 593], #[]⟩
noncomputable def ob_307 (P : Params) : Obj := ⟨.type "function", none, .func { name := ("take_code" : Str), qualname := ("take_code" : Str), params := (aF 28), body := .stmts (bodyF 28), scope := (sF 28), globals := 3, closure := [], defaults := .none, kwdefaults := .none, doc := .none, pyModule := .str ("postkeep.client" : Str) 365, annotations := none, code := .ref 306, closureTuple := .none, builtins := 0 }, #[]⟩
noncomputable def ob_308 (P : Params) : Obj := ⟨.type "tuple", none, .seq #[] 0, #[]⟩
noncomputable def ob_309 (P : Params) : Obj := ⟨.none, none, .fields #[], #[]⟩
noncomputable def ob_310 (P : Params) : Obj := ⟨.none, none, .func { name := ("_law_pairs" : Str), qualname := ("_law_pairs" : Str), params := (aF 30), body := .stmts (bodyF 30), scope := (sF 30), globals := 0, closure := [], defaults := .none, kwdefaults := .none, doc := .none, pyModule := .none, annotations := none, code := .none, closureTuple := .none, builtins := 0 }, #[]⟩
noncomputable def ob_311 (P : Params) : Obj := ⟨.type "code", none, .fields #[.str ("_law_pairs" : Str) 597, .str ("_law_pairs" : Str) 598, .str ("/claim/cut.py" : Str) 599, .int (220) 0, .int (2) 0, .int (0) 0, .int (0) 0, .int (3) 0, .ref 308, .bool true, .int (181) 0, .ref 309, .none, .none, .none, .ref 310, .int (600) 0, .int (220) 0, .str ("/claim/cut.py" : Str) 601], #[]⟩
noncomputable def ob_312 (P : Params) : Obj := ⟨.type "function", none, .func { name := ("_law_pairs" : Str), qualname := ("_law_pairs" : Str), params := (aF 30), body := .stmts (bodyF 30), scope := (sF 30), globals := 3, closure := [], defaults := .none, kwdefaults := .none, doc := .none, pyModule := .str ("law_nz0300_01" : Str) 595, annotations := none, code := .ref 311, closureTuple := .none, builtins := 0 }, #[]⟩
noncomputable def ob_313 (P : Params) : Obj := ⟨.type "tuple", none, .seq #[] 0, #[]⟩
noncomputable def ob_314 (P : Params) : Obj := ⟨.none, none, .fields #[], #[]⟩
noncomputable def ob_315 (P : Params) : Obj := ⟨.none, none, .func { name := ("_law_know" : Str), qualname := ("_law_know" : Str), params := (aF 31), body := .stmts (bodyF 31), scope := (sF 31), globals := 0, closure := [], defaults := .none, kwdefaults := .none, doc := .none, pyModule := .none, annotations := none, code := .none, closureTuple := .none, builtins := 0 }, #[]⟩
noncomputable def ob_316 (P : Params) : Obj := ⟨.type "code", none, .fields #[.str ("_law_know" : Str) 603, .str ("_law_know" : Str) 604, .str ("/claim/cut.py" : Str) 605, .int (230) 0, .int (2) 0, .int (0) 0, .int (0) 0, .int (3) 0, .ref 313, .bool true, .int (181) 0, .ref 314, .none, .none, .none, .ref 315, .int (606) 0, .int (230) 0, .str ("/claim/cut.py" : Str) 607], #[]⟩
noncomputable def ob_317 (P : Params) : Obj := ⟨.type "function", none, .func { name := ("_law_know" : Str), qualname := ("_law_know" : Str), params := (aF 31), body := .stmts (bodyF 31), scope := (sF 31), globals := 3, closure := [], defaults := .none, kwdefaults := .none, doc := .none, pyModule := .str ("law_nz0300_01" : Str) 595, annotations := none, code := .ref 316, closureTuple := .none, builtins := 0 }, #[]⟩
noncomputable def ob_318 (P : Params) : Obj := ⟨.type "tuple", none, .seq #[] 0, #[]⟩
noncomputable def ob_319 (P : Params) : Obj := ⟨.none, none, .fields #[], #[]⟩
noncomputable def ob_320 (P : Params) : Obj := ⟨.none, none, .func { name := ("_law_vanish" : Str), qualname := ("_law_vanish" : Str), params := (aF 32), body := .stmts (bodyF 32), scope := (sF 32), globals := 0, closure := [], defaults := .none, kwdefaults := .none, doc := .none, pyModule := .none, annotations := none, code := .none, closureTuple := .none, builtins := 0 }, #[]⟩
noncomputable def ob_321 (P : Params) : Obj := ⟨.type "code", none, .fields #[.str ("_law_vanish" : Str) 609, .str ("_law_vanish" : Str) 610, .str ("/claim/cut.py" : Str) 611, .int (239) 0, .int (2) 0, .int (0) 0, .int (0) 0, .int (3) 0, .ref 318, .bool true, .int (181) 0, .ref 319, .none, .none, .none, .ref 320, .int (612) 0, .int (239) 0, .str ("/claim/cut.py" : Str) 613], #[]⟩
noncomputable def ob_322 (P : Params) : Obj := ⟨.type "function", none, .func { name := ("_law_vanish" : Str), qualname := ("_law_vanish" : Str), params := (aF 32), body := .stmts (bodyF 32), scope := (sF 32), globals := 3, closure := [], defaults := .none, kwdefaults := .none, doc := .none, pyModule := .str ("law_nz0300_01" : Str) 595, annotations := none, code := .ref 321, closureTuple := .none, builtins := 0 }, #[]⟩
noncomputable def ob_323 (P : Params) : Obj := ⟨.type "tuple", none, .seq #[] 0, #[]⟩
noncomputable def ob_324 (P : Params) : Obj := ⟨.none, none, .fields #[], #[]⟩
noncomputable def ob_325 (P : Params) : Obj := ⟨.none, none, .func { name := ("_law_answer" : Str), qualname := ("_law_answer" : Str), params := (aF 33), body := .stmts (bodyF 33), scope := (sF 33), globals := 0, closure := [], defaults := .none, kwdefaults := .none, doc := .none, pyModule := .none, annotations := none, code := .none, closureTuple := .none, builtins := 0 }, #[]⟩
noncomputable def ob_326 (P : Params) : Obj := ⟨.type "code", none, .fields #[.str ("_law_answer" : Str) 615, .str ("_law_answer" : Str) 616, .str ("/claim/cut.py" : Str) 617, .int (251) 0, .int (3) 0, .int (0) 0, .int (0) 0, .int (3) 0, .ref 323, .bool true, .int (181) 0, .ref 324, .none, .none, .none, .ref 325, .int (618) 0, .int (251) 0, .str ("/claim/cut.py" : Str) 619], #[]⟩
noncomputable def ob_327 (P : Params) : Obj := ⟨.type "function", none, .func { name := ("_law_answer" : Str), qualname := ("_law_answer" : Str), params := (aF 33), body := .stmts (bodyF 33), scope := (sF 33), globals := 3, closure := [], defaults := .none, kwdefaults := .none, doc := .none, pyModule := .str ("law_nz0300_01" : Str) 595, annotations := none, code := .ref 326, closureTuple := .none, builtins := 0 }, #[]⟩
noncomputable def ob_328 (P : Params) : Obj := ⟨.type "tuple", none, .seq #[] 0, #[]⟩
noncomputable def ob_329 (P : Params) : Obj := ⟨.none, none, .fields #[], #[]⟩
noncomputable def ob_330 (P : Params) : Obj := ⟨.none, none, .func { name := ("law" : Str), qualname := ("law" : Str), params := (aF 34), body := .stmts (bodyF 34), scope := (sF 34), globals := 0, closure := [], defaults := .none, kwdefaults := .none, doc := .none, pyModule := .none, annotations := none, code := .none, closureTuple := .none, builtins := 0 }, #[]⟩
noncomputable def ob_331 (P : Params) : Obj := ⟨.type "code", none, .fields #[.str ("law" : Str) 621, .str ("law" : Str) 622, .str ("/claim/cut.py" : Str) 623, .int (283) 0, .int (1) 0, .int (0) 0, .int (0) 0, .int (3) 0, .ref 328, .bool true, .int (181) 0, .ref 329, .none, .none, .none, .ref 330, .int (624) 0, .int (283) 0, .str ("/claim/cut.py" : Str) 625], #[]⟩
noncomputable def ob_332 (P : Params) : Obj := ⟨.type "function", none, .func { name := ("law" : Str), qualname := ("law" : Str), params := (aF 34), body := .stmts (bodyF 34), scope := (sF 34), globals := 3, closure := [], defaults := .none, kwdefaults := .none, doc := .none, pyModule := .str ("law_nz0300_01" : Str) 595, annotations := none, code := .ref 331, closureTuple := .none, builtins := 0 }, #[]⟩
noncomputable def ob_2_pre (P : Params) : Obj := ⟨.none, none, .dict #[] 0, #[]⟩
noncomputable def ob_3_pre (P : Params) : Obj := ⟨.type "dict", none, .dict #[⟨PyData.keyHash P ("__name__" : Str), .str ("__name__" : Str) 165, .str ("__main__" : Str) 164⟩, ⟨PyData.keyHash P ("__doc__" : Str), .str ("__doc__" : Str) 166, .none⟩, ⟨PyData.keyHash P ("__package__" : Str), .str ("__package__" : Str) 167, .none⟩, ⟨PyData.keyHash P ("__loader__" : Str), .str ("__loader__" : Str) 168, .builtin "__main__.__loader__#opaque"⟩, ⟨PyData.keyHash P ("__spec__" : Str), .str ("__spec__" : Str) 169, .none⟩, ⟨PyData.keyHash P ("__annotations__" : Str), .str ("__annotations__" : Str) 170, .ref 6⟩, ⟨PyData.keyHash P ("__builtins__" : Str), .str ("__builtins__" : Str) 171, .ref 4⟩, ⟨PyData.keyHash P ("__file__" : Str), .str ("__file__" : Str) 173, .str ("/claim/cut.py" : Str) 172⟩, ⟨PyData.keyHash P ("__cached__" : Str), .str ("__cached__" : Str) 174, .none⟩] 9, #[]⟩
noncomputable def ob_12_pre (P : Params) : Obj := ⟨.none, none, .fields #[], #[]⟩
noncomputable def heap_pre (P : Params) : Heap := ⟨⟨[ob_0 P, ob_1 P, ob_2_pre P, ob_3_pre P, ob_4 P, ob_5 P, ob_6 P, ob_7 P, ob_8 P, ob_9 P, ob_10 P, ob_11 P, ob_12_pre P, ob_13 P, ob_14 P]⟩, lifeT⟩
noncomputable def ob_2_block (P : Params) : Obj := ⟨.none, none, .dict #[] 0, #[]⟩
noncomputable def ob_3_block (P : Params) : Obj := ⟨.type "dict", none, .dict #[⟨PyData.keyHash P ("__name__" : Str), .str ("__name__" : Str) 165, .str ("__main__" : Str) 164⟩, ⟨PyData.keyHash P ("__doc__" : Str), .str ("__doc__" : Str) 166, .none⟩, ⟨PyData.keyHash P ("__package__" : Str), .str ("__package__" : Str) 167, .none⟩, ⟨PyData.keyHash P ("__loader__" : Str), .str ("__loader__" : Str) 168, .builtin "__main__.__loader__#opaque"⟩, ⟨PyData.keyHash P ("__spec__" : Str), .str ("__spec__" : Str) 169, .none⟩, ⟨PyData.keyHash P ("__annotations__" : Str), .str ("__annotations__" : Str) 170, .ref 6⟩, ⟨PyData.keyHash P ("__builtins__" : Str), .str ("__builtins__" : Str) 171, .ref 4⟩, ⟨PyData.keyHash P ("__file__" : Str), .str ("__file__" : Str) 173, .str ("/claim/cut.py" : Str) 172⟩, ⟨PyData.keyHash P ("__cached__" : Str), .str ("__cached__" : Str) 174, .none⟩] 9, #[]⟩
noncomputable def ob_12_block (P : Params) : Obj := ⟨.none, none, .fields #[], #[]⟩
noncomputable def heap_block (P : Params) : Heap := ⟨⟨[ob_0 P, ob_1 P, ob_2_block P, ob_3_block P, ob_4 P, ob_5 P, ob_6 P, ob_7 P, ob_8 P, ob_9 P, ob_10 P, ob_11 P, ob_12_block P, ob_13 P, ob_14 P]⟩, lifeT⟩
noncomputable def ob_3_p1 (P : Params) : Obj := ⟨.type "dict", none, .dict #[⟨PyData.keyHash P ("__name__" : Str), .str ("__name__" : Str) 165, .str ("postkeep.errors" : Str) 187⟩, ⟨PyData.keyHash P ("__doc__" : Str), .str ("__doc__" : Str) 166, .none⟩, ⟨PyData.keyHash P ("__package__" : Str), .str ("__package__" : Str) 167, .none⟩, ⟨PyData.keyHash P ("__loader__" : Str), .str ("__loader__" : Str) 168, .builtin "__main__.__loader__#opaque"⟩, ⟨PyData.keyHash P ("__spec__" : Str), .str ("__spec__" : Str) 169, .none⟩, ⟨PyData.keyHash P ("__annotations__" : Str), .str ("__annotations__" : Str) 170, .ref 6⟩, ⟨PyData.keyHash P ("__builtins__" : Str), .str ("__builtins__" : Str) 171, .ref 4⟩, ⟨PyData.keyHash P ("__file__" : Str), .str ("__file__" : Str) 173, .str ("/claim/cut.py" : Str) 172⟩, ⟨PyData.keyHash P ("__cached__" : Str), .str ("__cached__" : Str) 174, .none⟩, ⟨PyData.keyHash P ("PostError" : Str), .str ("PostError" : Str) 228, .ref 39⟩] 10, #[]⟩
noncomputable def ob_12_p1 (P : Params) : Obj := ⟨.none, none, .fields #[.int (2) 0, .int (0) 0, .ref 20], #[]⟩
noncomputable def ob_39_p1 (P : Params) : Obj := ⟨.type "type", none, .cls { name := ("PostError" : Str), bases := [.type "Exception"], mro := [.ref 39, .type "Exception", .type "BaseException", .type "object"], ns := 38, qualname := ("PostError" : Str), hasDict := true, slotNames := [], subclasses := [], abstract := false, collection := none, hasDel := false }, #[(some (.ref 15)), none, (some (.str ("PostError" : Str) 189)), (some (.str ("PostError" : Str) 197)), (some (.builtin "Exception.__new__")), (some (.bool true))]⟩
noncomputable def heap_p1 (P : Params) : Heap := ⟨⟨[ob_0 P, ob_1 P, ob_2 P, ob_3_p1 P, ob_4 P, ob_5 P, ob_6 P, ob_7 P, ob_8 P, ob_9 P, ob_10 P, ob_11 P, ob_12_p1 P, ob_13 P, ob_14 P, ob_15 P, ob_16 P, ob_17 P, ob_18 P, ob_19 P, ob_20 P, ob_21 P, ob_22 P, ob_23 P, ob_24 P, ob_25 P, ob_26 P, ob_27 P, ob_28 P, ob_29 P, ob_30 P, ob_31 P, ob_32 P, ob_33 P, ob_34 P, ob_35 P, ob_36 P, ob_37 P, ob_38 P, ob_39_p1 P, ob_40 P, ob_41 P, ob_42 P]⟩, lifeT⟩
noncomputable def ob_3_p3 (P : Params) : Obj := ⟨.type "dict", none, .dict #[⟨PyData.keyHash P ("__name__" : Str), .str ("__name__" : Str) 165, .str ("postkeep.errors" : Str) 187⟩, ⟨PyData.keyHash P ("__doc__" : Str), .str ("__doc__" : Str) 166, .none⟩, ⟨PyData.keyHash P ("__package__" : Str), .str ("__package__" : Str) 167, .none⟩, ⟨PyData.keyHash P ("__loader__" : Str), .str ("__loader__" : Str) 168, .builtin "__main__.__loader__#opaque"⟩, ⟨PyData.keyHash P ("__spec__" : Str), .str ("__spec__" : Str) 169, .none⟩, ⟨PyData.keyHash P ("__annotations__" : Str), .str ("__annotations__" : Str) 170, .ref 6⟩, ⟨PyData.keyHash P ("__builtins__" : Str), .str ("__builtins__" : Str) 171, .ref 4⟩, ⟨PyData.keyHash P ("__file__" : Str), .str ("__file__" : Str) 173, .str ("/claim/cut.py" : Str) 172⟩, ⟨PyData.keyHash P ("__cached__" : Str), .str ("__cached__" : Str) 174, .none⟩, ⟨PyData.keyHash P ("PostError" : Str), .str ("PostError" : Str) 228, .ref 39⟩, ⟨PyData.keyHash P ("SetFault" : Str), .str ("SetFault" : Str) 244, .ref 52⟩, ⟨PyData.keyHash P ("ClientFault" : Str), .str ("ClientFault" : Str) 260, .ref 64⟩] 12, #[]⟩
noncomputable def ob_12_p3 (P : Params) : Obj := ⟨.none, none, .fields #[.int (2) 0, .int (0) 0, .ref 20, .int (11) 0, .int (0) 0, .ref 48, .int (13) 0, .int (0) 0, .ref 60], #[]⟩
noncomputable def heap_p3 (P : Params) : Heap := ⟨⟨[ob_0 P, ob_1 P, ob_2 P, ob_3_p3 P, ob_4 P, ob_5 P, ob_6 P, ob_7 P, ob_8 P, ob_9 P, ob_10 P, ob_11 P, ob_12_p3 P, ob_13 P, ob_14 P, ob_15 P, ob_16 P, ob_17 P, ob_18 P, ob_19 P, ob_20 P, ob_21 P, ob_22 P, ob_23 P, ob_24 P, ob_25 P, ob_26 P, ob_27 P, ob_28 P, ob_29 P, ob_30 P, ob_31 P, ob_32 P, ob_33 P, ob_34 P, ob_35 P, ob_36 P, ob_37 P, ob_38 P, ob_39 P, ob_40 P, ob_41 P, ob_42 P, ob_43 P, ob_44 P, ob_45 P, ob_46 P, ob_47 P, ob_48 P, ob_49 P, ob_50 P, ob_51 P, ob_52 P, ob_53 P, ob_54 P, ob_55 P, ob_56 P, ob_57 P, ob_58 P, ob_59 P, ob_60 P, ob_61 P, ob_62 P, ob_63 P, ob_64 P, ob_65 P, ob_66 P]⟩, lifeT⟩
noncomputable def ob_3_p11 (P : Params) : Obj := ⟨.type "dict", none, .dict #[⟨PyData.keyHash P ("__name__" : Str), .str ("__name__" : Str) 165, .str ("postkeep.wire" : Str) 327⟩, ⟨PyData.keyHash P ("__doc__" : Str), .str ("__doc__" : Str) 166, .none⟩, ⟨PyData.keyHash P ("__package__" : Str), .str ("__package__" : Str) 167, .none⟩, ⟨PyData.keyHash P ("__loader__" : Str), .str ("__loader__" : Str) 168, .builtin "__main__.__loader__#opaque"⟩, ⟨PyData.keyHash P ("__spec__" : Str), .str ("__spec__" : Str) 169, .none⟩, ⟨PyData.keyHash P ("__annotations__" : Str), .str ("__annotations__" : Str) 170, .ref 6⟩, ⟨PyData.keyHash P ("__builtins__" : Str), .str ("__builtins__" : Str) 171, .ref 4⟩, ⟨PyData.keyHash P ("__file__" : Str), .str ("__file__" : Str) 173, .str ("/claim/cut.py" : Str) 172⟩, ⟨PyData.keyHash P ("__cached__" : Str), .str ("__cached__" : Str) 174, .none⟩, ⟨PyData.keyHash P ("PostError" : Str), .str ("PostError" : Str) 228, .ref 39⟩, ⟨PyData.keyHash P ("SetFault" : Str), .str ("SetFault" : Str) 244, .ref 52⟩, ⟨PyData.keyHash P ("ClientFault" : Str), .str ("ClientFault" : Str) 260, .ref 64⟩, ⟨PyData.keyHash P ("ends_of" : Str), .str ("ends_of" : Str) 272, .ref 73⟩, ⟨PyData.keyHash P ("plain_set" : Str), .str ("plain_set" : Str) 286, .ref 80⟩, ⟨PyData.keyHash P ("settled" : Str), .str ("settled" : Str) 294, .ref 87⟩, ⟨PyData.keyHash P ("has" : Str), .str ("has" : Str) 305, .ref 94⟩, ⟨PyData.keyHash P ("numbers_in" : Str), .str ("numbers_in" : Str) 316, .ref 101⟩, ⟨PyData.keyHash P ("size_of" : Str), .str ("size_of" : Str) 326, .ref 108⟩] 18, #[]⟩
noncomputable def ob_12_p11 (P : Params) : Obj := ⟨.none, none, .fields #[.int (2) 0, .int (0) 0, .ref 20, .int (11) 0, .int (0) 0, .ref 48, .int (13) 0, .int (0) 0, .ref 60, .int (16) 0, .int (0) 0, .ref 72, .int (25) 0, .int (0) 0, .ref 79, .int (39) 0, .int (0) 0, .ref 86, .int (44) 0, .int (0) 0, .ref 93, .int (50) 0, .int (0) 0, .ref 100, .int (55) 0, .int (0) 0, .ref 107], #[]⟩
noncomputable def heap_p11 (P : Params) : Heap := ⟨⟨[ob_0 P, ob_1 P, ob_2 P, ob_3_p11 P, ob_4 P, ob_5 P, ob_6 P, ob_7 P, ob_8 P, ob_9 P, ob_10 P, ob_11 P, ob_12_p11 P, ob_13 P, ob_14 P, ob_15 P, ob_16 P, ob_17 P, ob_18 P, ob_19 P, ob_20 P, ob_21 P, ob_22 P, ob_23 P, ob_24 P, ob_25 P, ob_26 P, ob_27 P, ob_28 P, ob_29 P, ob_30 P, ob_31 P, ob_32 P, ob_33 P, ob_34 P, ob_35 P, ob_36 P, ob_37 P, ob_38 P, ob_39 P, ob_40 P, ob_41 P, ob_42 P, ob_43 P, ob_44 P, ob_45 P, ob_46 P, ob_47 P, ob_48 P, ob_49 P, ob_50 P, ob_51 P, ob_52 P, ob_53 P, ob_54 P, ob_55 P, ob_56 P, ob_57 P, ob_58 P, ob_59 P, ob_60 P, ob_61 P, ob_62 P, ob_63 P, ob_64 P, ob_65 P, ob_66 P, ob_67 P, ob_68 P, ob_69 P, ob_70 P, ob_71 P, ob_72 P, ob_73 P, ob_74 P, ob_75 P, ob_76 P, ob_77 P, ob_78 P, ob_79 P, ob_80 P, ob_81 P, ob_82 P, ob_83 P, ob_84 P, ob_85 P, ob_86 P, ob_87 P, ob_88 P, ob_89 P, ob_90 P, ob_91 P, ob_92 P, ob_93 P, ob_94 P, ob_95 P, ob_96 P, ob_97 P, ob_98 P, ob_99 P, ob_100 P, ob_101 P, ob_102 P, ob_103 P, ob_104 P, ob_105 P, ob_106 P, ob_107 P, ob_108 P]⟩, lifeT⟩
noncomputable def ob_3_p13 (P : Params) : Obj := ⟨.type "dict", none, .dict #[⟨PyData.keyHash P ("__name__" : Str), .str ("__name__" : Str) 165, .str ("postkeep.client" : Str) 365⟩, ⟨PyData.keyHash P ("__doc__" : Str), .str ("__doc__" : Str) 166, .none⟩, ⟨PyData.keyHash P ("__package__" : Str), .str ("__package__" : Str) 167, .none⟩, ⟨PyData.keyHash P ("__loader__" : Str), .str ("__loader__" : Str) 168, .builtin "__main__.__loader__#opaque"⟩, ⟨PyData.keyHash P ("__spec__" : Str), .str ("__spec__" : Str) 169, .none⟩, ⟨PyData.keyHash P ("__annotations__" : Str), .str ("__annotations__" : Str) 170, .ref 6⟩, ⟨PyData.keyHash P ("__builtins__" : Str), .str ("__builtins__" : Str) 171, .ref 4⟩, ⟨PyData.keyHash P ("__file__" : Str), .str ("__file__" : Str) 173, .str ("/claim/cut.py" : Str) 172⟩, ⟨PyData.keyHash P ("__cached__" : Str), .str ("__cached__" : Str) 174, .none⟩, ⟨PyData.keyHash P ("PostError" : Str), .str ("PostError" : Str) 228, .ref 39⟩, ⟨PyData.keyHash P ("SetFault" : Str), .str ("SetFault" : Str) 244, .ref 52⟩, ⟨PyData.keyHash P ("ClientFault" : Str), .str ("ClientFault" : Str) 260, .ref 64⟩, ⟨PyData.keyHash P ("ends_of" : Str), .str ("ends_of" : Str) 272, .ref 73⟩, ⟨PyData.keyHash P ("plain_set" : Str), .str ("plain_set" : Str) 286, .ref 80⟩, ⟨PyData.keyHash P ("settled" : Str), .str ("settled" : Str) 294, .ref 87⟩, ⟨PyData.keyHash P ("has" : Str), .str ("has" : Str) 305, .ref 94⟩, ⟨PyData.keyHash P ("numbers_in" : Str), .str ("numbers_in" : Str) 316, .ref 101⟩, ⟨PyData.keyHash P ("size_of" : Str), .str ("size_of" : Str) 326, .ref 108⟩, ⟨PyData.keyHash P ("Atom" : Str), .str ("Atom" : Str) 364, .ref 132⟩] 19, #[]⟩
noncomputable def ob_12_p13 (P : Params) : Obj := ⟨.none, none, .fields #[.int (2) 0, .int (0) 0, .ref 20, .int (11) 0, .int (0) 0, .ref 48, .int (13) 0, .int (0) 0, .ref 60, .int (16) 0, .int (0) 0, .ref 72, .int (25) 0, .int (0) 0, .ref 79, .int (39) 0, .int (0) 0, .ref 86, .int (44) 0, .int (0) 0, .ref 93, .int (50) 0, .int (0) 0, .ref 100, .int (55) 0, .int (0) 0, .ref 107, .int (61) 0, .int (0) 0, .ref 114], #[]⟩
noncomputable def heap_p13 (P : Params) : Heap := ⟨⟨[ob_0 P, ob_1 P, ob_2 P, ob_3_p13 P, ob_4 P, ob_5 P, ob_6 P, ob_7 P, ob_8 P, ob_9 P, ob_10 P, ob_11 P, ob_12_p13 P, ob_13 P, ob_14 P, ob_15 P, ob_16 P, ob_17 P, ob_18 P, ob_19 P, ob_20 P, ob_21 P, ob_22 P, ob_23 P, ob_24 P, ob_25 P, ob_26 P, ob_27 P, ob_28 P, ob_29 P, ob_30 P, ob_31 P, ob_32 P, ob_33 P, ob_34 P, ob_35 P, ob_36 P, ob_37 P, ob_38 P, ob_39 P, ob_40 P, ob_41 P, ob_42 P, ob_43 P, ob_44 P, ob_45 P, ob_46 P, ob_47 P, ob_48 P, ob_49 P, ob_50 P, ob_51 P, ob_52 P, ob_53 P, ob_54 P, ob_55 P, ob_56 P, ob_57 P, ob_58 P, ob_59 P, ob_60 P, ob_61 P, ob_62 P, ob_63 P, ob_64 P, ob_65 P, ob_66 P, ob_67 P, ob_68 P, ob_69 P, ob_70 P, ob_71 P, ob_72 P, ob_73 P, ob_74 P, ob_75 P, ob_76 P, ob_77 P, ob_78 P, ob_79 P, ob_80 P, ob_81 P, ob_82 P, ob_83 P, ob_84 P, ob_85 P, ob_86 P, ob_87 P, ob_88 P, ob_89 P, ob_90 P, ob_91 P, ob_92 P, ob_93 P, ob_94 P, ob_95 P, ob_96 P, ob_97 P, ob_98 P, ob_99 P, ob_100 P, ob_101 P, ob_102 P, ob_103 P, ob_104 P, ob_105 P, ob_106 P, ob_107 P, ob_108 P, ob_109 P, ob_110 P, ob_111 P, ob_112 P, ob_113 P, ob_114 P, ob_115 P, ob_116 P, ob_117 P, ob_118 P, ob_119 P, ob_120 P, ob_121 P, ob_122 P, ob_123 P, ob_124 P, ob_125 P, ob_126 P, ob_127 P, ob_128 P, ob_129 P, ob_130 P, ob_131 P, ob_132 P, ob_133 P, ob_134 P, ob_135 P, ob_136 P]⟩, lifeT⟩
noncomputable def ob_3_p14 (P : Params) : Obj := ⟨.type "dict", none, .dict #[⟨PyData.keyHash P ("__name__" : Str), .str ("__name__" : Str) 165, .str ("postkeep.client" : Str) 365⟩, ⟨PyData.keyHash P ("__doc__" : Str), .str ("__doc__" : Str) 166, .none⟩, ⟨PyData.keyHash P ("__package__" : Str), .str ("__package__" : Str) 167, .none⟩, ⟨PyData.keyHash P ("__loader__" : Str), .str ("__loader__" : Str) 168, .builtin "__main__.__loader__#opaque"⟩, ⟨PyData.keyHash P ("__spec__" : Str), .str ("__spec__" : Str) 169, .none⟩, ⟨PyData.keyHash P ("__annotations__" : Str), .str ("__annotations__" : Str) 170, .ref 6⟩, ⟨PyData.keyHash P ("__builtins__" : Str), .str ("__builtins__" : Str) 171, .ref 4⟩, ⟨PyData.keyHash P ("__file__" : Str), .str ("__file__" : Str) 173, .str ("/claim/cut.py" : Str) 172⟩, ⟨PyData.keyHash P ("__cached__" : Str), .str ("__cached__" : Str) 174, .none⟩, ⟨PyData.keyHash P ("PostError" : Str), .str ("PostError" : Str) 228, .ref 39⟩, ⟨PyData.keyHash P ("SetFault" : Str), .str ("SetFault" : Str) 244, .ref 52⟩, ⟨PyData.keyHash P ("ClientFault" : Str), .str ("ClientFault" : Str) 260, .ref 64⟩, ⟨PyData.keyHash P ("ends_of" : Str), .str ("ends_of" : Str) 272, .ref 73⟩, ⟨PyData.keyHash P ("plain_set" : Str), .str ("plain_set" : Str) 286, .ref 80⟩, ⟨PyData.keyHash P ("settled" : Str), .str ("settled" : Str) 294, .ref 87⟩, ⟨PyData.keyHash P ("has" : Str), .str ("has" : Str) 305, .ref 94⟩, ⟨PyData.keyHash P ("numbers_in" : Str), .str ("numbers_in" : Str) 316, .ref 101⟩, ⟨PyData.keyHash P ("size_of" : Str), .str ("size_of" : Str) 326, .ref 108⟩, ⟨PyData.keyHash P ("Atom" : Str), .str ("Atom" : Str) 364, .ref 132⟩, ⟨PyData.keyHash P ("Held" : Str), .str ("Held" : Str) 415, .ref 168⟩] 20, #[]⟩
noncomputable def ob_12_p14 (P : Params) : Obj := ⟨.none, none, .fields #[.int (2) 0, .int (0) 0, .ref 20, .int (11) 0, .int (0) 0, .ref 48, .int (13) 0, .int (0) 0, .ref 60, .int (16) 0, .int (0) 0, .ref 72, .int (25) 0, .int (0) 0, .ref 79, .int (39) 0, .int (0) 0, .ref 86, .int (44) 0, .int (0) 0, .ref 93, .int (50) 0, .int (0) 0, .ref 100, .int (55) 0, .int (0) 0, .ref 107, .int (61) 0, .int (0) 0, .ref 114, .int (69) 0, .int (0) 0, .ref 142], #[]⟩
noncomputable def heap_p14 (P : Params) : Heap := ⟨⟨[ob_0 P, ob_1 P, ob_2 P, ob_3_p14 P, ob_4 P, ob_5 P, ob_6 P, ob_7 P, ob_8 P, ob_9 P, ob_10 P, ob_11 P, ob_12_p14 P, ob_13 P, ob_14 P, ob_15 P, ob_16 P, ob_17 P, ob_18 P, ob_19 P, ob_20 P, ob_21 P, ob_22 P, ob_23 P, ob_24 P, ob_25 P, ob_26 P, ob_27 P, ob_28 P, ob_29 P, ob_30 P, ob_31 P, ob_32 P, ob_33 P, ob_34 P, ob_35 P, ob_36 P, ob_37 P, ob_38 P, ob_39 P, ob_40 P, ob_41 P, ob_42 P, ob_43 P, ob_44 P, ob_45 P, ob_46 P, ob_47 P, ob_48 P, ob_49 P, ob_50 P, ob_51 P, ob_52 P, ob_53 P, ob_54 P, ob_55 P, ob_56 P, ob_57 P, ob_58 P, ob_59 P, ob_60 P, ob_61 P, ob_62 P, ob_63 P, ob_64 P, ob_65 P, ob_66 P, ob_67 P, ob_68 P, ob_69 P, ob_70 P, ob_71 P, ob_72 P, ob_73 P, ob_74 P, ob_75 P, ob_76 P, ob_77 P, ob_78 P, ob_79 P, ob_80 P, ob_81 P, ob_82 P, ob_83 P, ob_84 P, ob_85 P, ob_86 P, ob_87 P, ob_88 P, ob_89 P, ob_90 P, ob_91 P, ob_92 P, ob_93 P, ob_94 P, ob_95 P, ob_96 P, ob_97 P, ob_98 P, ob_99 P, ob_100 P, ob_101 P, ob_102 P, ob_103 P, ob_104 P, ob_105 P, ob_106 P, ob_107 P, ob_108 P, ob_109 P, ob_110 P, ob_111 P, ob_112 P, ob_113 P, ob_114 P, ob_115 P, ob_116 P, ob_117 P, ob_118 P, ob_119 P, ob_120 P, ob_121 P, ob_122 P, ob_123 P, ob_124 P, ob_125 P, ob_126 P, ob_127 P, ob_128 P, ob_129 P, ob_130 P, ob_131 P, ob_132 P, ob_133 P, ob_134 P, ob_135 P, ob_136 P, ob_137 P, ob_138 P, ob_139 P, ob_140 P, ob_141 P, ob_142 P, ob_143 P, ob_144 P, ob_145 P, ob_146 P, ob_147 P, ob_148 P, ob_149 P, ob_150 P, ob_151 P, ob_152 P, ob_153 P, ob_154 P, ob_155 P, ob_156 P, ob_157 P, ob_158 P, ob_159 P, ob_160 P, ob_161 P, ob_162 P, ob_163 P, ob_164 P, ob_165 P, ob_166 P, ob_167 P, ob_168 P, ob_169 P, ob_170 P, ob_171 P, ob_172 P]⟩, lifeT⟩
noncomputable def ob_3_p15 (P : Params) : Obj := ⟨.type "dict", none, .dict #[⟨PyData.keyHash P ("__name__" : Str), .str ("__name__" : Str) 165, .str ("postkeep.client" : Str) 365⟩, ⟨PyData.keyHash P ("__doc__" : Str), .str ("__doc__" : Str) 166, .none⟩, ⟨PyData.keyHash P ("__package__" : Str), .str ("__package__" : Str) 167, .none⟩, ⟨PyData.keyHash P ("__loader__" : Str), .str ("__loader__" : Str) 168, .builtin "__main__.__loader__#opaque"⟩, ⟨PyData.keyHash P ("__spec__" : Str), .str ("__spec__" : Str) 169, .none⟩, ⟨PyData.keyHash P ("__annotations__" : Str), .str ("__annotations__" : Str) 170, .ref 6⟩, ⟨PyData.keyHash P ("__builtins__" : Str), .str ("__builtins__" : Str) 171, .ref 4⟩, ⟨PyData.keyHash P ("__file__" : Str), .str ("__file__" : Str) 173, .str ("/claim/cut.py" : Str) 172⟩, ⟨PyData.keyHash P ("__cached__" : Str), .str ("__cached__" : Str) 174, .none⟩, ⟨PyData.keyHash P ("PostError" : Str), .str ("PostError" : Str) 228, .ref 39⟩, ⟨PyData.keyHash P ("SetFault" : Str), .str ("SetFault" : Str) 244, .ref 52⟩, ⟨PyData.keyHash P ("ClientFault" : Str), .str ("ClientFault" : Str) 260, .ref 64⟩, ⟨PyData.keyHash P ("ends_of" : Str), .str ("ends_of" : Str) 272, .ref 73⟩, ⟨PyData.keyHash P ("plain_set" : Str), .str ("plain_set" : Str) 286, .ref 80⟩, ⟨PyData.keyHash P ("settled" : Str), .str ("settled" : Str) 294, .ref 87⟩, ⟨PyData.keyHash P ("has" : Str), .str ("has" : Str) 305, .ref 94⟩, ⟨PyData.keyHash P ("numbers_in" : Str), .str ("numbers_in" : Str) 316, .ref 101⟩, ⟨PyData.keyHash P ("size_of" : Str), .str ("size_of" : Str) 326, .ref 108⟩, ⟨PyData.keyHash P ("Atom" : Str), .str ("Atom" : Str) 364, .ref 132⟩, ⟨PyData.keyHash P ("Held" : Str), .str ("Held" : Str) 415, .ref 168⟩, ⟨PyData.keyHash P ("Copy" : Str), .str ("Copy" : Str) 487, .ref 218⟩] 21, #[]⟩
noncomputable def ob_12_p15 (P : Params) : Obj := ⟨.none, none, .fields #[.int (2) 0, .int (0) 0, .ref 20, .int (11) 0, .int (0) 0, .ref 48, .int (13) 0, .int (0) 0, .ref 60, .int (16) 0, .int (0) 0, .ref 72, .int (25) 0, .int (0) 0, .ref 79, .int (39) 0, .int (0) 0, .ref 86, .int (44) 0, .int (0) 0, .ref 93, .int (50) 0, .int (0) 0, .ref 100, .int (55) 0, .int (0) 0, .ref 107, .int (61) 0, .int (0) 0, .ref 114, .int (69) 0, .int (0) 0, .ref 142, .int (81) 0, .int (0) 0, .ref 178], #[]⟩
noncomputable def heap_p15 (P : Params) : Heap := ⟨⟨[ob_0 P, ob_1 P, ob_2 P, ob_3_p15 P, ob_4 P, ob_5 P, ob_6 P, ob_7 P, ob_8 P, ob_9 P, ob_10 P, ob_11 P, ob_12_p15 P, ob_13 P, ob_14 P, ob_15 P, ob_16 P, ob_17 P, ob_18 P, ob_19 P, ob_20 P, ob_21 P, ob_22 P, ob_23 P, ob_24 P, ob_25 P, ob_26 P, ob_27 P, ob_28 P, ob_29 P, ob_30 P, ob_31 P, ob_32 P, ob_33 P, ob_34 P, ob_35 P, ob_36 P, ob_37 P, ob_38 P, ob_39 P, ob_40 P, ob_41 P, ob_42 P, ob_43 P, ob_44 P, ob_45 P, ob_46 P, ob_47 P, ob_48 P, ob_49 P, ob_50 P, ob_51 P, ob_52 P, ob_53 P, ob_54 P, ob_55 P, ob_56 P, ob_57 P, ob_58 P, ob_59 P, ob_60 P, ob_61 P, ob_62 P, ob_63 P, ob_64 P, ob_65 P, ob_66 P, ob_67 P, ob_68 P, ob_69 P, ob_70 P, ob_71 P, ob_72 P, ob_73 P, ob_74 P, ob_75 P, ob_76 P, ob_77 P, ob_78 P, ob_79 P, ob_80 P, ob_81 P, ob_82 P, ob_83 P, ob_84 P, ob_85 P, ob_86 P, ob_87 P, ob_88 P, ob_89 P, ob_90 P, ob_91 P, ob_92 P, ob_93 P, ob_94 P, ob_95 P, ob_96 P, ob_97 P, ob_98 P, ob_99 P, ob_100 P, ob_101 P, ob_102 P, ob_103 P, ob_104 P, ob_105 P, ob_106 P, ob_107 P, ob_108 P, ob_109 P, ob_110 P, ob_111 P, ob_112 P, ob_113 P, ob_114 P, ob_115 P, ob_116 P, ob_117 P, ob_118 P, ob_119 P, ob_120 P, ob_121 P, ob_122 P, ob_123 P, ob_124 P, ob_125 P, ob_126 P, ob_127 P, ob_128 P, ob_129 P, ob_130 P, ob_131 P, ob_132 P, ob_133 P, ob_134 P, ob_135 P, ob_136 P, ob_137 P, ob_138 P, ob_139 P, ob_140 P, ob_141 P, ob_142 P, ob_143 P, ob_144 P, ob_145 P, ob_146 P, ob_147 P, ob_148 P, ob_149 P, ob_150 P, ob_151 P, ob_152 P, ob_153 P, ob_154 P, ob_155 P, ob_156 P, ob_157 P, ob_158 P, ob_159 P, ob_160 P, ob_161 P, ob_162 P, ob_163 P, ob_164 P, ob_165 P, ob_166 P, ob_167 P, ob_168 P, ob_169 P, ob_170 P, ob_171 P, ob_172 P, ob_173 P, ob_174 P, ob_175 P, ob_176 P, ob_177 P, ob_178 P, ob_179 P, ob_180 P, ob_181 P, ob_182 P, ob_183 P, ob_184 P, ob_185 P, ob_186 P, ob_187 P, ob_188 P, ob_189 P, ob_190 P, ob_191 P, ob_192 P, ob_193 P, ob_194 P, ob_195 P, ob_196 P, ob_197 P, ob_198 P, ob_199 P, ob_200 P, ob_201 P, ob_202 P, ob_203 P, ob_204 P, ob_205 P, ob_206 P, ob_207 P, ob_208 P, ob_209 P, ob_210 P, ob_211 P, ob_212 P, ob_213 P, ob_214 P, ob_215 P, ob_216 P, ob_217 P, ob_218 P, ob_219 P, ob_220 P, ob_221 P, ob_222 P]⟩, lifeT⟩
noncomputable def ob_3_p23 (P : Params) : Obj := ⟨.type "dict", none, .dict #[⟨PyData.keyHash P ("__name__" : Str), .str ("__name__" : Str) 165, .str ("postkeep.client" : Str) 365⟩, ⟨PyData.keyHash P ("__doc__" : Str), .str ("__doc__" : Str) 166, .none⟩, ⟨PyData.keyHash P ("__package__" : Str), .str ("__package__" : Str) 167, .none⟩, ⟨PyData.keyHash P ("__loader__" : Str), .str ("__loader__" : Str) 168, .builtin "__main__.__loader__#opaque"⟩, ⟨PyData.keyHash P ("__spec__" : Str), .str ("__spec__" : Str) 169, .none⟩, ⟨PyData.keyHash P ("__annotations__" : Str), .str ("__annotations__" : Str) 170, .ref 6⟩, ⟨PyData.keyHash P ("__builtins__" : Str), .str ("__builtins__" : Str) 171, .ref 4⟩, ⟨PyData.keyHash P ("__file__" : Str), .str ("__file__" : Str) 173, .str ("/claim/cut.py" : Str) 172⟩, ⟨PyData.keyHash P ("__cached__" : Str), .str ("__cached__" : Str) 174, .none⟩, ⟨PyData.keyHash P ("PostError" : Str), .str ("PostError" : Str) 228, .ref 39⟩, ⟨PyData.keyHash P ("SetFault" : Str), .str ("SetFault" : Str) 244, .ref 52⟩, ⟨PyData.keyHash P ("ClientFault" : Str), .str ("ClientFault" : Str) 260, .ref 64⟩, ⟨PyData.keyHash P ("ends_of" : Str), .str ("ends_of" : Str) 272, .ref 73⟩, ⟨PyData.keyHash P ("plain_set" : Str), .str ("plain_set" : Str) 286, .ref 80⟩, ⟨PyData.keyHash P ("settled" : Str), .str ("settled" : Str) 294, .ref 87⟩, ⟨PyData.keyHash P ("has" : Str), .str ("has" : Str) 305, .ref 94⟩, ⟨PyData.keyHash P ("numbers_in" : Str), .str ("numbers_in" : Str) 316, .ref 101⟩, ⟨PyData.keyHash P ("size_of" : Str), .str ("size_of" : Str) 326, .ref 108⟩, ⟨PyData.keyHash P ("Atom" : Str), .str ("Atom" : Str) 364, .ref 132⟩, ⟨PyData.keyHash P ("Held" : Str), .str ("Held" : Str) 415, .ref 168⟩, ⟨PyData.keyHash P ("Copy" : Str), .str ("Copy" : Str) 487, .ref 218⟩, ⟨PyData.keyHash P ("take_exists" : Str), .str ("take_exists" : Str) 493, .ref 227⟩, ⟨PyData.keyHash P ("check_uid" : Str), .str ("check_uid" : Str) 504, .ref 234⟩, ⟨PyData.keyHash P ("take_fetch" : Str), .str ("take_fetch" : Str) 510, .ref 239⟩, ⟨PyData.keyHash P ("place_gone" : Str), .str ("place_gone" : Str) 521, .ref 246⟩, ⟨PyData.keyHash P ("blur" : Str), .str ("blur" : Str) 530, .ref 253⟩, ⟨PyData.keyHash P ("drop_uid" : Str), .str ("drop_uid" : Str) 539, .ref 260⟩, ⟨PyData.keyHash P ("uids_of" : Str), .str ("uids_of" : Str) 547, .ref 267⟩, ⟨PyData.keyHash P ("take_vanished" : Str), .str ("take_vanished" : Str) 553, .ref 272⟩] 29, #[]⟩
noncomputable def ob_12_p23 (P : Params) : Obj := ⟨.none, none, .fields #[.int (2) 0, .int (0) 0, .ref 20, .int (11) 0, .int (0) 0, .ref 48, .int (13) 0, .int (0) 0, .ref 60, .int (16) 0, .int (0) 0, .ref 72, .int (25) 0, .int (0) 0, .ref 79, .int (39) 0, .int (0) 0, .ref 86, .int (44) 0, .int (0) 0, .ref 93, .int (50) 0, .int (0) 0, .ref 100, .int (55) 0, .int (0) 0, .ref 107, .int (61) 0, .int (0) 0, .ref 114, .int (69) 0, .int (0) 0, .ref 142, .int (81) 0, .int (0) 0, .ref 178, .int (124) 0, .int (0) 0, .ref 226, .int (131) 0, .int (0) 0, .ref 233, .int (138) 0, .int (0) 0, .ref 238, .int (149) 0, .int (0) 0, .ref 245, .int (161) 0, .int (0) 0, .ref 252, .int (168) 0, .int (0) 0, .ref 259, .int (173) 0, .int (0) 0, .ref 266, .int (178) 0, .int (0) 0, .ref 271], #[]⟩
noncomputable def heap_p23 (P : Params) : Heap := ⟨⟨[ob_0 P, ob_1 P, ob_2 P, ob_3_p23 P, ob_4 P, ob_5 P, ob_6 P, ob_7 P, ob_8 P, ob_9 P, ob_10 P, ob_11 P, ob_12_p23 P, ob_13 P, ob_14 P, ob_15 P, ob_16 P, ob_17 P, ob_18 P, ob_19 P, ob_20 P, ob_21 P, ob_22 P, ob_23 P, ob_24 P, ob_25 P, ob_26 P, ob_27 P, ob_28 P, ob_29 P, ob_30 P, ob_31 P, ob_32 P, ob_33 P, ob_34 P, ob_35 P, ob_36 P, ob_37 P, ob_38 P, ob_39 P, ob_40 P, ob_41 P, ob_42 P, ob_43 P, ob_44 P, ob_45 P, ob_46 P, ob_47 P, ob_48 P, ob_49 P, ob_50 P, ob_51 P, ob_52 P, ob_53 P, ob_54 P, ob_55 P, ob_56 P, ob_57 P, ob_58 P, ob_59 P, ob_60 P, ob_61 P, ob_62 P, ob_63 P, ob_64 P, ob_65 P, ob_66 P, ob_67 P, ob_68 P, ob_69 P, ob_70 P, ob_71 P, ob_72 P, ob_73 P, ob_74 P, ob_75 P, ob_76 P, ob_77 P, ob_78 P, ob_79 P, ob_80 P, ob_81 P, ob_82 P, ob_83 P, ob_84 P, ob_85 P, ob_86 P, ob_87 P, ob_88 P, ob_89 P, ob_90 P, ob_91 P, ob_92 P, ob_93 P, ob_94 P, ob_95 P, ob_96 P, ob_97 P, ob_98 P, ob_99 P, ob_100 P, ob_101 P, ob_102 P, ob_103 P, ob_104 P, ob_105 P, ob_106 P, ob_107 P, ob_108 P, ob_109 P, ob_110 P, ob_111 P, ob_112 P, ob_113 P, ob_114 P, ob_115 P, ob_116 P, ob_117 P, ob_118 P, ob_119 P, ob_120 P, ob_121 P, ob_122 P, ob_123 P, ob_124 P, ob_125 P, ob_126 P, ob_127 P, ob_128 P, ob_129 P, ob_130 P, ob_131 P, ob_132 P, ob_133 P, ob_134 P, ob_135 P, ob_136 P, ob_137 P, ob_138 P, ob_139 P, ob_140 P, ob_141 P, ob_142 P, ob_143 P, ob_144 P, ob_145 P, ob_146 P, ob_147 P, ob_148 P, ob_149 P, ob_150 P, ob_151 P, ob_152 P, ob_153 P, ob_154 P, ob_155 P, ob_156 P, ob_157 P, ob_158 P, ob_159 P, ob_160 P, ob_161 P, ob_162 P, ob_163 P, ob_164 P, ob_165 P, ob_166 P, ob_167 P, ob_168 P, ob_169 P, ob_170 P, ob_171 P, ob_172 P, ob_173 P, ob_174 P, ob_175 P, ob_176 P, ob_177 P, ob_178 P, ob_179 P, ob_180 P, ob_181 P, ob_182 P, ob_183 P, ob_184 P, ob_185 P, ob_186 P, ob_187 P, ob_188 P, ob_189 P, ob_190 P, ob_191 P, ob_192 P, ob_193 P, ob_194 P, ob_195 P, ob_196 P, ob_197 P, ob_198 P, ob_199 P, ob_200 P, ob_201 P, ob_202 P, ob_203 P, ob_204 P, ob_205 P, ob_206 P, ob_207 P, ob_208 P, ob_209 P, ob_210 P, ob_211 P, ob_212 P, ob_213 P, ob_214 P, ob_215 P, ob_216 P, ob_217 P, ob_218 P, ob_219 P, ob_220 P, ob_221 P, ob_222 P, ob_223 P, ob_224 P, ob_225 P, ob_226 P, ob_227 P, ob_228 P, ob_229 P, ob_230 P, ob_231 P, ob_232 P, ob_233 P, ob_234 P, ob_235 P, ob_236 P, ob_237 P, ob_238 P, ob_239 P, ob_240 P, ob_241 P, ob_242 P, ob_243 P, ob_244 P, ob_245 P, ob_246 P, ob_247 P, ob_248 P, ob_249 P, ob_250 P, ob_251 P, ob_252 P, ob_253 P, ob_254 P, ob_255 P, ob_256 P, ob_257 P, ob_258 P, ob_259 P, ob_260 P, ob_261 P, ob_262 P, ob_263 P, ob_264 P, ob_265 P, ob_266 P, ob_267 P, ob_268 P, ob_269 P, ob_270 P, ob_271 P, ob_272 P]⟩, lifeT⟩
noncomputable def heap_p34 (P : Params) : Heap := ⟨⟨[ob_0 P, ob_1 P, ob_2 P, ob_3 P, ob_4 P, ob_5 P, ob_6 P, ob_7 P, ob_8 P, ob_9 P, ob_10 P, ob_11 P, ob_12 P, ob_13 P, ob_14 P, ob_15 P, ob_16 P, ob_17 P, ob_18 P, ob_19 P, ob_20 P, ob_21 P, ob_22 P, ob_23 P, ob_24 P, ob_25 P, ob_26 P, ob_27 P, ob_28 P, ob_29 P, ob_30 P, ob_31 P, ob_32 P, ob_33 P, ob_34 P, ob_35 P, ob_36 P, ob_37 P, ob_38 P, ob_39 P, ob_40 P, ob_41 P, ob_42 P, ob_43 P, ob_44 P, ob_45 P, ob_46 P, ob_47 P, ob_48 P, ob_49 P, ob_50 P, ob_51 P, ob_52 P, ob_53 P, ob_54 P, ob_55 P, ob_56 P, ob_57 P, ob_58 P, ob_59 P, ob_60 P, ob_61 P, ob_62 P, ob_63 P, ob_64 P, ob_65 P, ob_66 P, ob_67 P, ob_68 P, ob_69 P, ob_70 P, ob_71 P, ob_72 P, ob_73 P, ob_74 P, ob_75 P, ob_76 P, ob_77 P, ob_78 P, ob_79 P, ob_80 P, ob_81 P, ob_82 P, ob_83 P, ob_84 P, ob_85 P, ob_86 P, ob_87 P, ob_88 P, ob_89 P, ob_90 P, ob_91 P, ob_92 P, ob_93 P, ob_94 P, ob_95 P, ob_96 P, ob_97 P, ob_98 P, ob_99 P, ob_100 P, ob_101 P, ob_102 P, ob_103 P, ob_104 P, ob_105 P, ob_106 P, ob_107 P, ob_108 P, ob_109 P, ob_110 P, ob_111 P, ob_112 P, ob_113 P, ob_114 P, ob_115 P, ob_116 P, ob_117 P, ob_118 P, ob_119 P, ob_120 P, ob_121 P, ob_122 P, ob_123 P, ob_124 P, ob_125 P, ob_126 P, ob_127 P, ob_128 P, ob_129 P, ob_130 P, ob_131 P, ob_132 P, ob_133 P, ob_134 P, ob_135 P, ob_136 P, ob_137 P, ob_138 P, ob_139 P, ob_140 P, ob_141 P, ob_142 P, ob_143 P, ob_144 P, ob_145 P, ob_146 P, ob_147 P, ob_148 P, ob_149 P, ob_150 P, ob_151 P, ob_152 P, ob_153 P, ob_154 P, ob_155 P, ob_156 P, ob_157 P, ob_158 P, ob_159 P, ob_160 P, ob_161 P, ob_162 P, ob_163 P, ob_164 P, ob_165 P, ob_166 P, ob_167 P, ob_168 P, ob_169 P, ob_170 P, ob_171 P, ob_172 P, ob_173 P, ob_174 P, ob_175 P, ob_176 P, ob_177 P, ob_178 P, ob_179 P, ob_180 P, ob_181 P, ob_182 P, ob_183 P, ob_184 P, ob_185 P, ob_186 P, ob_187 P, ob_188 P, ob_189 P, ob_190 P, ob_191 P, ob_192 P, ob_193 P, ob_194 P, ob_195 P, ob_196 P, ob_197 P, ob_198 P, ob_199 P, ob_200 P, ob_201 P, ob_202 P, ob_203 P, ob_204 P, ob_205 P, ob_206 P, ob_207 P, ob_208 P, ob_209 P, ob_210 P, ob_211 P, ob_212 P, ob_213 P, ob_214 P, ob_215 P, ob_216 P, ob_217 P, ob_218 P, ob_219 P, ob_220 P, ob_221 P, ob_222 P, ob_223 P, ob_224 P, ob_225 P, ob_226 P, ob_227 P, ob_228 P, ob_229 P, ob_230 P, ob_231 P, ob_232 P, ob_233 P, ob_234 P, ob_235 P, ob_236 P, ob_237 P, ob_238 P, ob_239 P, ob_240 P, ob_241 P, ob_242 P, ob_243 P, ob_244 P, ob_245 P, ob_246 P, ob_247 P, ob_248 P, ob_249 P, ob_250 P, ob_251 P, ob_252 P, ob_253 P, ob_254 P, ob_255 P, ob_256 P, ob_257 P, ob_258 P, ob_259 P, ob_260 P, ob_261 P, ob_262 P, ob_263 P, ob_264 P, ob_265 P, ob_266 P, ob_267 P, ob_268 P, ob_269 P, ob_270 P, ob_271 P, ob_272 P, ob_273 P, ob_274 P, ob_275 P, ob_276 P, ob_277 P, ob_278 P, ob_279 P, ob_280 P, ob_281 P, ob_282 P, ob_283 P, ob_284 P, ob_285 P, ob_286 P, ob_287 P, ob_288 P, ob_289 P, ob_290 P, ob_291 P, ob_292 P, ob_293 P, ob_294 P, ob_295 P, ob_296 P, ob_297 P, ob_298 P, ob_299 P, ob_300 P, ob_301 P, ob_302 P, ob_303 P, ob_304 P, ob_305 P, ob_306 P, ob_307 P, ob_308 P, ob_309 P, ob_310 P, ob_311 P, ob_312 P, ob_313 P, ob_314 P, ob_315 P, ob_316 P, ob_317 P, ob_318 P, ob_319 P, ob_320 P, ob_321 P, ob_322 P, ob_323 P, ob_324 P, ob_325 P, ob_326 P, ob_327 P, ob_328 P, ob_329 P, ob_330 P, ob_331 P, ob_332 P]⟩, lifeT⟩
noncomputable def heap_fin (P : Params) : Heap := ⟨⟨[ob_0 P, ob_1 P, ob_2 P, ob_3 P, ob_4 P, ob_5 P, ob_6 P, ob_7 P, ob_8 P, ob_9 P, ob_10 P, ob_11 P, ob_12 P, ob_13 P, ob_14 P, ob_15 P, ob_16 P, ob_17 P, ob_18 P, ob_19 P, ob_20 P, ob_21 P, ob_22 P, ob_23 P, ob_24 P, ob_25 P, ob_26 P, ob_27 P, ob_28 P, ob_29 P, ob_30 P, ob_31 P, ob_32 P, ob_33 P, ob_34 P, ob_35 P, ob_36 P, ob_37 P, ob_38 P, ob_39 P, ob_40 P, ob_41 P, ob_42 P, ob_43 P, ob_44 P, ob_45 P, ob_46 P, ob_47 P, ob_48 P, ob_49 P, ob_50 P, ob_51 P, ob_52 P, ob_53 P, ob_54 P, ob_55 P, ob_56 P, ob_57 P, ob_58 P, ob_59 P, ob_60 P, ob_61 P, ob_62 P, ob_63 P, ob_64 P, ob_65 P, ob_66 P, ob_67 P, ob_68 P, ob_69 P, ob_70 P, ob_71 P, ob_72 P, ob_73 P, ob_74 P, ob_75 P, ob_76 P, ob_77 P, ob_78 P, ob_79 P, ob_80 P, ob_81 P, ob_82 P, ob_83 P, ob_84 P, ob_85 P, ob_86 P, ob_87 P, ob_88 P, ob_89 P, ob_90 P, ob_91 P, ob_92 P, ob_93 P, ob_94 P, ob_95 P, ob_96 P, ob_97 P, ob_98 P, ob_99 P, ob_100 P, ob_101 P, ob_102 P, ob_103 P, ob_104 P, ob_105 P, ob_106 P, ob_107 P, ob_108 P, ob_109 P, ob_110 P, ob_111 P, ob_112 P, ob_113 P, ob_114 P, ob_115 P, ob_116 P, ob_117 P, ob_118 P, ob_119 P, ob_120 P, ob_121 P, ob_122 P, ob_123 P, ob_124 P, ob_125 P, ob_126 P, ob_127 P, ob_128 P, ob_129 P, ob_130 P, ob_131 P, ob_132 P, ob_133 P, ob_134 P, ob_135 P, ob_136 P, ob_137 P, ob_138 P, ob_139 P, ob_140 P, ob_141 P, ob_142 P, ob_143 P, ob_144 P, ob_145 P, ob_146 P, ob_147 P, ob_148 P, ob_149 P, ob_150 P, ob_151 P, ob_152 P, ob_153 P, ob_154 P, ob_155 P, ob_156 P, ob_157 P, ob_158 P, ob_159 P, ob_160 P, ob_161 P, ob_162 P, ob_163 P, ob_164 P, ob_165 P, ob_166 P, ob_167 P, ob_168 P, ob_169 P, ob_170 P, ob_171 P, ob_172 P, ob_173 P, ob_174 P, ob_175 P, ob_176 P, ob_177 P, ob_178 P, ob_179 P, ob_180 P, ob_181 P, ob_182 P, ob_183 P, ob_184 P, ob_185 P, ob_186 P, ob_187 P, ob_188 P, ob_189 P, ob_190 P, ob_191 P, ob_192 P, ob_193 P, ob_194 P, ob_195 P, ob_196 P, ob_197 P, ob_198 P, ob_199 P, ob_200 P, ob_201 P, ob_202 P, ob_203 P, ob_204 P, ob_205 P, ob_206 P, ob_207 P, ob_208 P, ob_209 P, ob_210 P, ob_211 P, ob_212 P, ob_213 P, ob_214 P, ob_215 P, ob_216 P, ob_217 P, ob_218 P, ob_219 P, ob_220 P, ob_221 P, ob_222 P, ob_223 P, ob_224 P, ob_225 P, ob_226 P, ob_227 P, ob_228 P, ob_229 P, ob_230 P, ob_231 P, ob_232 P, ob_233 P, ob_234 P, ob_235 P, ob_236 P, ob_237 P, ob_238 P, ob_239 P, ob_240 P, ob_241 P, ob_242 P, ob_243 P, ob_244 P, ob_245 P, ob_246 P, ob_247 P, ob_248 P, ob_249 P, ob_250 P, ob_251 P, ob_252 P, ob_253 P, ob_254 P, ob_255 P, ob_256 P, ob_257 P, ob_258 P, ob_259 P, ob_260 P, ob_261 P, ob_262 P, ob_263 P, ob_264 P, ob_265 P, ob_266 P, ob_267 P, ob_268 P, ob_269 P, ob_270 P, ob_271 P, ob_272 P, ob_273 P, ob_274 P, ob_275 P, ob_276 P, ob_277 P, ob_278 P, ob_279 P, ob_280 P, ob_281 P, ob_282 P, ob_283 P, ob_284 P, ob_285 P, ob_286 P, ob_287 P, ob_288 P, ob_289 P, ob_290 P, ob_291 P, ob_292 P, ob_293 P, ob_294 P, ob_295 P, ob_296 P, ob_297 P, ob_298 P, ob_299 P, ob_300 P, ob_301 P, ob_302 P, ob_303 P, ob_304 P, ob_305 P, ob_306 P, ob_307 P, ob_308 P, ob_309 P, ob_310 P, ob_311 P, ob_312 P, ob_313 P, ob_314 P, ob_315 P, ob_316 P, ob_317 P, ob_318 P, ob_319 P, ob_320 P, ob_321 P, ob_322 P, ob_323 P, ob_324 P, ob_325 P, ob_326 P, ob_327 P, ob_328 P, ob_329 P, ob_330 P, ob_331 P, ob_332 P]⟩, lifeT⟩
noncomputable def addrs : List Addr := [2, 3, 15, 22, 23, 25, 26, 28, 29, 30, 32, 33, 35, 36, 37, 38, 39, 40, 43, 50, 51, 52, 55, 62, 63, 64, 67, 69, 70, 72, 73, 74, 76, 77, 79, 80, 81, 83, 84, 86, 87, 88, 90, 91, 93, 94, 95, 97, 98, 100, 101, 102, 104, 105, 107, 108, 116, 118, 119, 121, 122, 123, 125, 126, 128, 129, 130, 131, 132, 133, 134, 144, 145, 147, 148, 150, 151, 152, 154, 155, 157, 158, 159, 161, 162, 164, 165, 166, 167, 168, 169, 170, 180, 182, 183, 185, 186, 187, 190, 191, 192, 194, 195, 197, 198, 199, 202, 203, 204, 207, 208, 209, 211, 212, 214, 215, 216, 217, 218, 219, 220, 223, 226, 227, 228, 230, 231, 233, 234, 235, 238, 239, 240, 242, 243, 245, 246, 247, 249, 250, 252, 253, 254, 256, 257, 259, 260, 261, 263, 264, 266, 267, 268, 271, 272, 273, 275, 276, 278, 279, 280, 282, 283, 285, 286, 287, 289, 290, 292, 293, 294, 296, 297, 299, 300, 301, 303, 304, 306, 307, 308, 311, 312, 313, 316, 317, 318, 321, 322, 323, 326, 327, 328, 331, 332]
noncomputable def heapK (P : Params) : Frag := [(2, ob_2 P), (3, ob_3 P), (15, ob_15 P), (22, ob_22 P), (23, ob_23 P), (25, ob_25 P), (26, ob_26 P), (28, ob_28 P), (29, ob_29 P), (30, ob_30 P), (32, ob_32 P), (33, ob_33 P), (35, ob_35 P), (36, ob_36 P), (37, ob_37 P), (38, ob_38 P), (39, ob_39 P), (40, ob_40 P), (43, ob_43 P), (50, ob_50 P), (51, ob_51 P), (52, ob_52 P), (55, ob_55 P), (62, ob_62 P), (63, ob_63 P), (64, ob_64 P), (67, ob_67 P), (69, ob_69 P), (70, ob_70 P), (72, ob_72 P), (73, ob_73 P), (74, ob_74 P), (76, ob_76 P), (77, ob_77 P), (79, ob_79 P), (80, ob_80 P), (81, ob_81 P), (83, ob_83 P), (84, ob_84 P), (86, ob_86 P), (87, ob_87 P), (88, ob_88 P), (90, ob_90 P), (91, ob_91 P), (93, ob_93 P), (94, ob_94 P), (95, ob_95 P), (97, ob_97 P), (98, ob_98 P), (100, ob_100 P), (101, ob_101 P), (102, ob_102 P), (104, ob_104 P), (105, ob_105 P), (107, ob_107 P), (108, ob_108 P), (116, ob_116 P), (118, ob_118 P), (119, ob_119 P), (121, ob_121 P), (122, ob_122 P), (123, ob_123 P), (125, ob_125 P), (126, ob_126 P), (128, ob_128 P), (129, ob_129 P), (130, ob_130 P), (131, ob_131 P), (132, ob_132 P), (133, ob_133 P), (134, ob_134 P), (144, ob_144 P), (145, ob_145 P), (147, ob_147 P), (148, ob_148 P), (150, ob_150 P), (151, ob_151 P), (152, ob_152 P), (154, ob_154 P), (155, ob_155 P), (157, ob_157 P), (158, ob_158 P), (159, ob_159 P), (161, ob_161 P), (162, ob_162 P), (164, ob_164 P), (165, ob_165 P), (166, ob_166 P), (167, ob_167 P), (168, ob_168 P), (169, ob_169 P), (170, ob_170 P), (180, ob_180 P), (182, ob_182 P), (183, ob_183 P), (185, ob_185 P), (186, ob_186 P), (187, ob_187 P), (190, ob_190 P), (191, ob_191 P), (192, ob_192 P), (194, ob_194 P), (195, ob_195 P), (197, ob_197 P), (198, ob_198 P), (199, ob_199 P), (202, ob_202 P), (203, ob_203 P), (204, ob_204 P), (207, ob_207 P), (208, ob_208 P), (209, ob_209 P), (211, ob_211 P), (212, ob_212 P), (214, ob_214 P), (215, ob_215 P), (216, ob_216 P), (217, ob_217 P), (218, ob_218 P), (219, ob_219 P), (220, ob_220 P), (223, ob_223 P), (226, ob_226 P), (227, ob_227 P), (228, ob_228 P), (230, ob_230 P), (231, ob_231 P), (233, ob_233 P), (234, ob_234 P), (235, ob_235 P), (238, ob_238 P), (239, ob_239 P), (240, ob_240 P), (242, ob_242 P), (243, ob_243 P), (245, ob_245 P), (246, ob_246 P), (247, ob_247 P), (249, ob_249 P), (250, ob_250 P), (252, ob_252 P), (253, ob_253 P), (254, ob_254 P), (256, ob_256 P), (257, ob_257 P), (259, ob_259 P), (260, ob_260 P), (261, ob_261 P), (263, ob_263 P), (264, ob_264 P), (266, ob_266 P), (267, ob_267 P), (268, ob_268 P), (271, ob_271 P), (272, ob_272 P), (273, ob_273 P), (275, ob_275 P), (276, ob_276 P), (278, ob_278 P), (279, ob_279 P), (280, ob_280 P), (282, ob_282 P), (283, ob_283 P), (285, ob_285 P), (286, ob_286 P), (287, ob_287 P), (289, ob_289 P), (290, ob_290 P), (292, ob_292 P), (293, ob_293 P), (294, ob_294 P), (296, ob_296 P), (297, ob_297 P), (299, ob_299 P), (300, ob_300 P), (301, ob_301 P), (303, ob_303 P), (304, ob_304 P), (306, ob_306 P), (307, ob_307 P), (308, ob_308 P), (311, ob_311 P), (312, ob_312 P), (313, ob_313 P), (316, ob_316 P), (317, ob_317 P), (318, ob_318 P), (321, ob_321 P), (322, ob_322 P), (323, ob_323 P), (326, ob_326 P), (327, ob_327 P), (328, ob_328 P), (331, ob_331 P), (332, ob_332 P)]
noncomputable def viewP : Program := view PySem.Challenge.pw_nz0300_01 [1, 2, 3, 5, 6, 7, 8, 9, 10, 12, 14, 15, 16, 17, 18, 19, 20, 21, 22, 23, 24, 25, 26, 27, 28, 30, 31, 32, 33, 34]
noncomputable def looseP : List Str := [Str.ofString "PostError"]
noncomputable abbrev rowP : RowW := OpenRow.toRowW (OpenLaw.row PySem.Challenge.rw_nz0300_01)
noncomputable abbrev BB : List Stmt := behindTheImports pwT
noncomputable def sts (a b : Nat) : List Stmt := (BB.drop a).take b
noncomputable def envT : Env := { scope := pwT.main.scope, locals := mainNs, globals := mainNs, cells := [], code := .ref 13, frame := some 14 }
noncomputable abbrev cT : Code := .body BB envT
noncomputable abbrev q0 : Pos := ⟨0, 0, 0, 0⟩
noncomputable abbrev annT : Option Value := some (.ref 6)
noncomputable abbrev sh (H : Params → Heap) (k : Nat) (w : World) (os : OsState) : Shared := ⟨H w.params, #[], {}, k, os⟩
theorem t_pre (w : World) (os : OsState) : topGo treeTable pwT w 11 annT 12 ⟨boot_heap w.params, Array.mk [], boot_drawn, boot_toks, os⟩ (topStub pwT) = some (sh heap_pre 187 w os, ⟨denote treeTable cT, cT, q0, [topFrame q0]⟩) := by kernel_rfl
theorem t_block (w : World) (os : OsState) : segRun treeTable pwT w 11 annT 1 1 (sh heap_pre 187 w os) (blockOf BB envT cT q0 [topFrame q0]) = some (.next, sh heap_block 187 w os, cT, q0) := by kernel_rfl
theorem t_p1 (w : World) (os : OsState) : segRun treeTable pwT w 11 annT 1 278 (sh heap_block 187 w os) (piecesOf (sts 0 2) envT cT q0 [topFrame q0]) = some (.next, sh heap_p1 229 w os, cT, ⟨2, 0, 10, 35⟩) := by kernel_rfl
theorem t_p3 (w : World) (os : OsState) : segRun treeTable pwT w 11 annT 1 427 (sh heap_p1 229 w os) (piecesOf (sts 2 2) envT cT ⟨2, 0, 10, 35⟩ [topFrame q0]) = some (.next, sh heap_p3 261 w os, cT, ⟨13, 0, 14, 8⟩) := by kernel_rfl
theorem t_p11 (w : World) (os : OsState) : segRun treeTable pwT w 11 annT 1 215 (sh heap_p3 261 w os) (piecesOf (sts 4 8) envT cT ⟨13, 0, 14, 8⟩ [topFrame q0]) = some (.next, sh heap_p11 329 w os, cT, ⟨60, 0, 60, 8⟩) := by kernel_rfl
theorem t_p13 (w : World) (os : OsState) : segRun treeTable pwT w 11 annT 1 263 (sh heap_p11 329 w os) (piecesOf (sts 12 2) envT cT ⟨60, 0, 60, 8⟩ [topFrame q0]) = some (.next, sh heap_p13 367 w os, cT, ⟨68, 0, 68, 8⟩) := by kernel_rfl
theorem t_p14 (w : World) (os : OsState) : segRun treeTable pwT w 11 annT 1 292 (sh heap_p13 367 w os) (piecesOf (sts 14 1) envT cT ⟨68, 0, 68, 8⟩ [topFrame q0]) = some (.next, sh heap_p14 416 w os, cT, ⟨69, 0, 80, 50⟩) := by kernel_rfl
theorem t_p15 (w : World) (os : OsState) : segRun treeTable pwT w 11 annT 1 380 (sh heap_p14 416 w os) (piecesOf (sts 15 1) envT cT ⟨69, 0, 80, 50⟩ [topFrame q0]) = some (.next, sh heap_p15 488 w os, cT, ⟨81, 0, 123, 56⟩) := by kernel_rfl
theorem t_p23 (w : World) (os : OsState) : segRun treeTable pwT w 11 annT 1 237 (sh heap_p15 488 w os) (piecesOf (sts 16 8) envT cT ⟨81, 0, 123, 56⟩ [topFrame q0]) = some (.next, sh heap_p23 554 w os, cT, ⟨178, 0, 185, 27⟩) := by kernel_rfl
theorem t_p34 (w : World) (os : OsState) : segRun treeTable pwT w 11 annT 1 291 (sh heap_p23 554 w os) (piecesOf (sts 24 11) envT cT ⟨178, 0, 185, 27⟩ [topFrame q0]) = some (.next, sh heap_p34 627 w os, cT, ⟨283, 0, 295, 45⟩) := by kernel_rfl
theorem t_fin (w : World) (os : OsState) : topRun treeTable pwT w 11 annT 2 (sh heap_p34 627 w os) ⟨doneF .next, cT, ⟨283, 0, 295, 45⟩, [topFrame q0]⟩ = some (sh heap_fin 627 w os) := by kernel_rfl
theorem bb_parts : BB = sts 0 2 ++ (sts 2 2 ++ (sts 4 8 ++ (sts 12 2 ++ (sts 14 1 ++ (sts 15 1 ++ (sts 16 8 ++ (sts 24 11 ++ ([])))))))) := by kernel_rfl
noncomputable def stepsT : Nat := 12 + (1 + (278 + (427 + (215 + (263 + (292 + (380 + (237 + (291 + 2)))))))))
theorem t_run (w : World) (os : OsState) : topRun treeTable pwT w 11 annT stepsT ⟨boot_heap w.params, Array.mk [], boot_drawn, boot_toks, os⟩ (topStub pwT) = some ⟨heap_fin w.params, #[], {}, 627, os⟩ := by
  have e : restOf BB envT cT q0 [topFrame q0] = restOf (sts 0 2 ++ (sts 2 2 ++ (sts 4 8 ++ (sts 12 2 ++ (sts 14 1 ++ (sts 15 1 ++ (sts 16 8 ++ (sts 24 11 ++ ([]))))))))) envT cT q0 [topFrame q0] := congrArg (fun l => restOf l envT cT q0 [topFrame q0]) bb_parts
  refine go_top (t_pre w os) (piece_block (t_block w os) ?_)
  rw [e]
  exact piece_app (t_p1 w os) (piece_app (t_p3 w os) (piece_app (t_p11 w os) (piece_app (t_p13 w os) (piece_app (t_p14 w os) (piece_app (t_p15 w os) (piece_app (t_p23 w os) (piece_app (t_p34 w os) (piece_nil (t_fin w os)))))))))
theorem k_addrs (P : Params) : addrs = (heapK P).map (·.1) := by kernel_rfl
noncomputable abbrev HK : Hook := kHook heapK addrs k_addrs
noncomputable abbrev XtP : Shared → Bool := fun s => xlAt viewP [] s && recOk (RowW.records rowP) s
noncomputable abbrev finS (w : World) (os : OsState) : Shared := ⟨heap_fin w.params, #[], {}, 627, os⟩
theorem l_stat (w : World) (os : OsState) : (staticsOk (importedModules pwT.main.body) (boot_heap w.params) (heap_fin w.params) && namesBound pwT (heap_fin w.params) && gensDone (finS w os) && laidKept (boot_heap w.params) (heap_fin w.params)) = true := by kernel_rfl
theorem l_seen (w : World) (os : OsState) : openSeen viewP looseP (importedModules pwT.main.body) XtP true (finS w os) = openGood viewP looseP := by kernel_rfl
theorem l_obs (w : World) (os : OsState) : Hook.obs HK (finS w os) = Hook.val HK w := by kernel_rfl
theorem left : LeftO pwT viewP looseP XtP (Hook.obs HK) (Hook.val HK) 4876 :=
  LeftO.of_pieces (boot_open (by rfl) (by rfl) fun s => by rfl) (fun w => by kernel_rfl) t_run (by rfl) fun w => funext fun os => looks_pair (l_stat w os) (looks_pair (l_seen w os) (l_obs w os))
theorem w_row : (OpenLaw.row PySem.Challenge.rw_nz0300_01).wellSaid = true := by kernel_rfl
theorem well : OpenLaw.wellSaid PySem.Challenge.rw_nz0300_01 = true := by
  unfold OpenLaw.wellSaid
  iterate 18 refine look_both ?_ (by kernel_rfl)
  exact w_row
local macro_rules | `(tactic| o_law) => `(tactic| refine holds_law well fun said => ?_)
set_option hygiene false in
local macro_rules | `(tactic| k_head) => `(tactic| refine holds_open (q := viewP) (loose := looseP) (Xt := XtP) (XP := XL viewP []) (Yf := Hook.obs HK) (Ya := Hook.val HK) (YP := Hook.says HK) (N := 4876) left (Hook.of HK) (Hook.keeps HK) (fun s e => xl_of s (Bool.and_eq_true_iff.mp e).1) XL.keeps (by rfl) (by rfl) (by rfl) (fun s e => recFacts_of (Bool.and_eq_true_iff.mp e).2) (by rfl) (by first | assumption | decide +kernel) (by decide +kernel) ⟨rfl, rfl, rfl, rfl, rfl, by decide +kernel⟩ ?hw ?hc)
open_top hd for PySem.Challenge.rw_nz0300_01
end Mine
end
section
set_option maxRecDepth 100000
set_option Elab.async false
set_option linter.unusedVariables false
namespace Mine
open PySem PySem.W PySem.Calls PyProof.Rows

/-! Values without tokens; objects as they are told. -/
def er : Value → Value
  | .int i _ => .int i 0
  | .float x _ => .float x 0
  | .str x _ => .str x 0
  | .bytes x _ => .bytes x 0
  | v => v
theorem er_int {v : Value} {i : Int} {t : Tok} (h : er v = .int i t) : ∃ k, v = .int i k := by cases v <;> simp_all [er]
theorem er_str {v : Value} {i : Str} {t : Tok} (h : er v = .str i t) : ∃ k, v = .str i k := by cases v <;> simp_all [er]
theorem er_ref {v : Value} {a : Addr} (h : er v = .ref a) : v = .ref a := by cases v <;> simp_all [er]
theorem er_none {v : Value} (h : er v = .none) : v = .none := by cases v <;> simp_all [er]
theorem er_bool {v : Value} {x : Bool} (h : er v = .bool x) : v = .bool x := by cases v <;> simp_all [er]
theorem er_builtin {v : Value} {x : String} (h : er v = .builtin x) : v = .builtin x := by cases v <;> simp_all [er]
theorem er_type {v : Value} {x : String} (h : er v = .type x) : v = .type x := by cases v <;> simp_all [er]

inductive AO where
  | list (vs : List Value)
  | tup (vs : List Value)
  | inst (C : Addr) (fs : List (Str × Value))
  | cell (v : Value)
  | hole
  | dict (p : Program) (w : World) (es : List (Str × Value))
  | edict
  | ditr (d : Addr)
  | liter (l : Addr) (i : Nat)
  | titer (t : Addr) (i : Nat)
  | range (lo hi : Int)
  | riter (x left : Int)

def FieldsAre : List DictEntry → List (Str × Value) → Prop
  | [], [] => True
  | e :: es, f :: fs => (∃ t, e.key = .str f.1 t) ∧ er e.val = f.2 ∧ FieldsAre es fs
  | _, _ => False
def ObjIs (h : Heap) (dd : Addr → Addr) (a : Addr) : AO → Prop
  | .list vs => ∃ vs' n, h.get? a = some (listOf (List.toArray vs') n) ∧ vs'.map er = vs
  | .tup vs => ∃ vs' n, h.get? a = some { cls := .type "tuple", data := .seq (List.toArray vs') n } ∧ vs'.map er = vs
  | .inst C fs => h.get? a = some (instObj C (dd a)) ∧ ∃ es n, h.get? (dd a) = some (dictOf es n) ∧ FieldsAre es fs
  | .cell v => ∃ o v', h.get? a = some o ∧ o.data = .cell (some v') ∧ er v' = v
  | .hole => ∃ o, h.get? a = some o ∧ o.data = .cell none
  | .dict p w es => (a == sysModules) = false ∧ ∃ kvs, h.DictOf (PySem.strKind p w) a kvs ∧ kvs.map (fun x => (x.1, er x.2)) = es
  | .edict => (a == sysModules) = false ∧ h.get? a = some { cls := .type "dict", data := .dict #[] }
  | .ditr d => h.IsKeyIter a d 0 0 0
  | .liter l i => h.IsListIter a l i
  | .titer t i => h.IsTupleIter a t i
  | .range lo hi => ∃ t u v, IsRange h a lo hi 1 t u v
  | .riter x left => IsRangeIter h a x left 1

abbrev AH := Addr → Option AO
structure St where
  m : Str → Option Value
  H : AH

structure Rep (b : Heap) (L : Addr) (h : Heap) (dd : Addr → Addr) (H : AH) : Prop where
  own : ∀ a o, H a = some o → b.get? a = none ∧ a ≠ L ∧ ObjIs h dd a o
  ddo : ∀ a C fs, H a = some (.inst C fs) → b.get? (dd a) = none ∧ dd a ≠ L ∧ H (dd a) = none
  inj : ∀ a a' C fs C' fs', H a = some (.inst C fs) → H a' = some (.inst C' fs') → dd a = dd a' → a = a'

def orF (H F : AH) : AH := fun a => (H a).or (F a)
def Disj (H F : AH) : Prop := ∀ a, H a = none ∨ F a = none
/-- F: what else of the call's own stands there, out of reach. -/
structure Sat (b : Heap) (L : Addr) (F : AH) (h : Heap) (σ : St) : Prop where
  ex : ∃ m' dd, Fr b L h m' ∧ (∀ x, (m' x).map er = σ.m x) ∧ Rep b L h dd (orF σ.H F) ∧ Disj σ.H F

def upd (H : AH) (a : Addr) (o : AO) : AH := fun x => if x = a then some o else H x
@[simp] theorem upd_self (H : AH) (a : Addr) (o : AO) : upd H a o a = some o := by simp [upd]
theorem upd_ne {H : AH} {a x : Addr} {o : AO} (h : x ≠ a) : upd H a o x = H x := by simp [upd, h]
def putM (m : Str → Option Value) (x : Str) (v : Value) : Str → Option Value := fun y => if y = x then some v else m y

theorem orF_l {H F : AH} {a : Addr} {o : AO} (e : H a = some o) : orF H F a = some o := by unfold orF; rw [e]; rfl
theorem orF_n {H F : AH} {a : Addr} (e : orF H F a = none) : H a = none ∧ F a = none := by
  unfold orF at e
  cases q : H a with
  | none => rw [q] at e; exact ⟨rfl, e⟩
  | some o => rw [q] at e; cases e
theorem orF_some {H F : AH} {a : Addr} {o : AO} (e : orF H F a = some o) : H a = some o ∨ (H a = none ∧ F a = some o) := by
  unfold orF at e
  cases q : H a with
  | none => rw [q] at e; exact .inr ⟨rfl, e⟩
  | some x => rw [q] at e; exact .inl e
theorem upd_orF {H F : AH} {a : Addr} {o : AO} : upd (orF H F) a o = orF (upd H a o) F := by
  funext x
  unfold upd orF
  by_cases h : x = a <;> simp [h]
theorem Disj.at {H F : AH} (D : Disj H F) {a : Addr} {o : AO} (e : H a = some o) : F a = none := (D a).resolve_left (by rw [e]; simp)
theorem Disj.upd {H F : AH} (D : Disj H F) {a : Addr} {o : AO} (e : F a = none) : Disj (upd H a o) F := fun x => by
  by_cases h : x = a
  · subst h; exact .inr e
  · rw [upd_ne h]; exact D x
def dropA (H : AH) (a : Addr) : AH := fun x => if x = a then none else H x
theorem dropA_ne {H : AH} {a x : Addr} (h : x ≠ a) : dropA H a x = H x := by simp [dropA, h]
theorem dropA_some {H : AH} {a x : Addr} {o : AO} (h : dropA H a x = some o) : x ≠ a ∧ H x = some o := by
  unfold dropA at h
  by_cases q : x = a
  · rw [if_pos q] at h; cases h
  · rw [if_neg q] at h; exact ⟨q, h⟩
theorem drop_orF {H F : AH} {a : Addr} (e : F a = none) : dropA (orF H F) a = orF (dropA H a) F := by
  funext x
  unfold dropA orF
  by_cases h : x = a
  · subst h; simp [e]
  · simp [h]
theorem Disj.drop {H F : AH} (D : Disj H F) (a : Addr) : Disj (dropA H a) F := fun x => by
  unfold dropA
  split
  · exact .inl rfl
  · exact D x
theorem ObjIs.mono {h h' : Heap} {dd dd' : Addr → Addr} {a : Addr} {o : AO} (X : ObjIs h dd a o) (k : ∀ x, h.get? a = some x → h'.get? a = some x)
    (hd : ∀ C fs, o = .inst C fs → dd' a = dd a ∧ ∀ x, h.get? (dd a) = some x → h'.get? (dd a) = some x) : ObjIs h' dd' a o := by
  cases o with
  | list vs => obtain ⟨v, n, e, r⟩ := X; exact ⟨v, n, k _ e, r⟩
  | tup vs => obtain ⟨v, n, e, r⟩ := X; exact ⟨v, n, k _ e, r⟩
  | inst C fs =>
    obtain ⟨e, es, n, e2, r⟩ := X
    obtain ⟨q, k2⟩ := hd C fs rfl
    refine ⟨by rw [q]; exact k _ e, es, n, by rw [q]; exact k2 _ e2, r⟩
  | cell v => obtain ⟨o, v', e, r⟩ := X; exact ⟨o, v', k _ e, r⟩
  | hole => obtain ⟨o, e, r⟩ := X; exact ⟨o, k _ e, r⟩
  | dict p w es => obtain ⟨h1, kvs, ⟨o, es', ep, ho, r⟩, e⟩ := X; exact ⟨h1, kvs, ⟨o, es', ep, k _ ho, r⟩, e⟩
  | edict => obtain ⟨h1, e⟩ := X; exact ⟨h1, k _ e⟩
  | ditr d => obtain ⟨o, e, r⟩ := X; exact ⟨o, k _ e, r⟩
  | liter l i => obtain ⟨o, e, r⟩ := X; exact ⟨o, k _ e, r⟩
  | titer l i => obtain ⟨o, e, r⟩ := X; exact ⟨o, k _ e, r⟩
  | range l i => obtain ⟨t, u, v, e⟩ := X; exact ⟨t, u, v, k _ e⟩
  | riter l i => exact k _ X
theorem ObjIs.there {h : Heap} {dd : Addr → Addr} {a : Addr} {o : AO} (X : ObjIs h dd a o) : ∃ x, h.get? a = some x := by
  cases o with
  | list vs => obtain ⟨v, n, e, r⟩ := X; exact ⟨_, e⟩
  | tup vs => obtain ⟨v, n, e, r⟩ := X; exact ⟨_, e⟩
  | inst C fs => obtain ⟨e, es, n, e2, r⟩ := X; exact ⟨_, e⟩
  | cell v => obtain ⟨o, v', e, r⟩ := X; exact ⟨_, e⟩
  | hole => obtain ⟨o, e, r⟩ := X; exact ⟨_, e⟩
  | dict p w es => obtain ⟨h1, kvs, ⟨o, es', ep, ho, r⟩, e⟩ := X; exact ⟨_, ho⟩
  | edict => obtain ⟨h1, e⟩ := X; exact ⟨_, e⟩
  | ditr d => obtain ⟨o, e, r⟩ := X; exact ⟨_, e⟩
  | liter l i => obtain ⟨o, e, r⟩ := X; exact ⟨_, e⟩
  | titer l i => obtain ⟨o, e, r⟩ := X; exact ⟨_, e⟩
  | range l i => obtain ⟨t, u, v, e⟩ := X; exact ⟨_, e⟩
  | riter l i => exact ⟨_, X⟩

/-! The heap goes on: everything but one place stays. -/
theorem Rep.same {b h h' : Heap} {L : Addr} {dd : Addr → Addr} {H : AH} (R : Rep b L h dd H) (k : ∀ x o, x ≠ L → h.get? x = some o → h'.get? x = some o) : Rep b L h' dd H :=
  ⟨fun a o e => ⟨(R.own a o e).1, (R.own a o e).2.1, (R.own a o e).2.2.mono (fun x ex => k a x (R.own a o e).2.1 ex)
    fun C fs q => ⟨rfl, fun x ex => k _ x (R.ddo a C fs (q ▸ e)).2.1 ex⟩⟩, R.ddo, R.inj⟩
theorem Rep.le {b h : Heap} {L : Addr} {dd : Addr → Addr} {H H' : AH} (R : Rep b L h dd H) (k : ∀ a o, H' a = some o → H a = some o) : Rep b L h dd H' :=
  ⟨fun a o e => R.own a o (k a o e), fun a C fs e => ⟨(R.ddo a C fs (k _ _ e)).1, (R.ddo a C fs (k _ _ e)).2.1, by
    cases q : H' (dd a) with
    | none => rfl
    | some o => have := k _ _ q; rw [(R.ddo a C fs (k _ _ e)).2.2] at this; cases this⟩, fun a a' C fs C' fs' e e' => R.inj a a' C fs C' fs' (k _ _ e) (k _ _ e')⟩
/-- A place of the heap that is no instance is given another content that is no instance. -/
theorem Rep.set {b h h' : Heap} {L a : Addr} {dd : Addr → Addr} {H : AH} {o o' : AO} (R : Rep b L h dd H) (e : H a = some o) (hi : ∀ C fs, o ≠ .inst C fs) (hi' : ∀ C fs, o' ≠ .inst C fs)
    (k : ∀ x ob, x ≠ a → x ≠ L → h.get? x = some ob → h'.get? x = some ob) (ho : ObjIs h' dd a o') : Rep b L h' dd (upd H a o') := by
  have hne : ∀ x C fs, H x = some (.inst C fs) → dd x ≠ a := fun x C fs q z => by
    have := (R.ddo x C fs q).2.2; rw [z, e] at this; cases this
  refine ⟨fun x ox q => ?_, fun x C fs q => ?_, fun x y C fs C' fs' q q' z => ?_⟩
  · by_cases hx : x = a
    · subst hx; rw [upd_self] at q; cases q
      exact ⟨(R.own _ _ e).1, (R.own _ _ e).2.1, ho⟩
    · rw [upd_ne hx] at q
      refine ⟨(R.own _ _ q).1, (R.own _ _ q).2.1, (R.own _ _ q).2.2.mono (fun y => k x y hx (R.own _ _ q).2.1) fun C fs z => ⟨rfl, fun y => k _ y ?_ (R.ddo x C fs (z ▸ q)).2.1⟩⟩
      subst z; exact hne x C fs q
  · by_cases hx : x = a
    · subst hx; rw [upd_self] at q; cases q; exact absurd rfl (hi' _ _)
    · rw [upd_ne hx] at q
      refine ⟨(R.ddo _ _ _ q).1, (R.ddo _ _ _ q).2.1, ?_⟩
      rw [upd_ne (hne x C fs q)]; exact (R.ddo _ _ _ q).2.2
  · have hx : x ≠ a := fun h => by subst h; rw [upd_self] at q; cases q; exact absurd rfl (hi' _ _)
    have hy : y ≠ a := fun h => by subst h; rw [upd_self] at q'; cases q'; exact absurd rfl (hi' _ _)
    rw [upd_ne hx] at q; rw [upd_ne hy] at q'
    exact R.inj x y C fs C' fs' q q' z
/-- An instance's fields change. -/
theorem Rep.setI {b h h' : Heap} {L a C : Addr} {dd : Addr → Addr} {H : AH} {fs fs' : List (Str × Value)} {es : List DictEntry} {n : Nat} (R : Rep b L h dd H) (e : H a = some (.inst C fs))
    (k : ∀ x ob, x ≠ dd a → x ≠ L → h.get? x = some ob → h'.get? x = some ob) (ho : h'.get? (dd a) = some (dictOf es n)) (hf : FieldsAre es fs') : Rep b L h' dd (upd H a (.inst C fs')) := by
  have hda : a ≠ dd a := fun z => by have := (R.ddo a C fs e).2.2; rw [← z, e] at this; cases this
  refine ⟨fun x ox q => ?_, fun x C₁ fs₁ q => ?_, fun x y C₁ fs₁ C₂ fs₂ q q' z => ?_⟩
  · by_cases hx : x = a
    · subst hx; rw [upd_self] at q; cases q
      exact ⟨(R.own _ _ e).1, (R.own _ _ e).2.1, k _ _ hda (R.own _ _ e).2.1 (R.own _ _ e).2.2.1, es, n, ho, hf⟩
    · rw [upd_ne hx] at q
      have hxd : x ≠ dd a := fun z => by have := (R.ddo a C fs e).2.2; rw [← z, q] at this; cases this
      refine ⟨(R.own _ _ q).1, (R.own _ _ q).2.1, (R.own _ _ q).2.2.mono (fun y => k x y hxd (R.own _ _ q).2.1) fun C' fs₁ z => ⟨rfl, fun y => k _ y ?_ (R.ddo x C' fs₁ (z ▸ q)).2.1⟩⟩
      subst z; exact fun z => hx (R.inj x a _ _ _ _ q e z)
  · by_cases hx : x = a
    · subst hx; rw [upd_self] at q; cases q
      refine ⟨(R.ddo _ _ _ e).1, (R.ddo _ _ _ e).2.1, ?_⟩
      rw [upd_ne (Ne.symm hda)]; exact (R.ddo _ _ _ e).2.2
    · rw [upd_ne hx] at q
      refine ⟨(R.ddo _ _ _ q).1, (R.ddo _ _ _ q).2.1, ?_⟩
      have : dd x ≠ a := fun z => by have := (R.ddo x _ _ q).2.2; rw [z, e] at this; cases this
      rw [upd_ne this]; exact (R.ddo _ _ _ q).2.2
  · have f : ∀ x C₁ fs₁, upd H a (.inst C fs') x = some (.inst C₁ fs₁) → ∃ C₂ fs₂, H x = some (.inst C₂ fs₂) := fun x C₁ fs₁ q => by
      by_cases hx : x = a
      · subst hx; exact ⟨_, _, e⟩
      · rw [upd_ne hx] at q; exact ⟨_, _, q⟩
    obtain ⟨_, _, q1⟩ := f _ _ _ q
    obtain ⟨_, _, q2⟩ := f _ _ _ q'
    exact R.inj _ _ _ _ _ _ q1 q2 z
/-- A new object that is no instance. -/
theorem Rep.add {b h h' : Heap} {L a : Addr} {dd : Addr → Addr} {H : AH} {o : AO} (R : Rep b L h dd H) (hn : h.get? a = none) (hb : b.get? a = none) (hL : a ≠ L) (hi : ∀ C fs, o ≠ .inst C fs)
    (k : ∀ x ob, x ≠ L → h.get? x = some ob → h'.get? x = some ob) (ho : ObjIs h' dd a o) : Rep b L h' dd (upd H a o) ∧ H a = none := by
  have hH : H a = none := by
    cases q : H a with
    | none => rfl
    | some o => obtain ⟨x, e⟩ := (R.own _ _ q).2.2.there; rw [hn] at e; cases e
  have hne : ∀ x C fs, H x = some (.inst C fs) → dd x ≠ a := fun x C fs q z => by
    obtain ⟨_, es, n, e, _⟩ := (R.own _ _ q).2.2; rw [z, hn] at e; cases e
  refine ⟨⟨fun x ox q => ?_, fun x C fs q => ?_, fun x y C fs C' fs' q q' z => ?_⟩, hH⟩
  · by_cases hx : x = a
    · subst hx; rw [upd_self] at q; cases q; exact ⟨hb, hL, ho⟩
    · rw [upd_ne hx] at q
      exact ⟨(R.own _ _ q).1, (R.own _ _ q).2.1, (R.own _ _ q).2.2.mono (fun y => k x y (R.own _ _ q).2.1) fun C fs z => ⟨rfl, fun y => k _ y (R.ddo x C fs (z ▸ q)).2.1⟩⟩
  · by_cases hx : x = a
    · subst hx; rw [upd_self] at q; cases q; exact absurd rfl (hi _ _)
    · rw [upd_ne hx] at q
      refine ⟨(R.ddo _ _ _ q).1, (R.ddo _ _ _ q).2.1, ?_⟩
      rw [upd_ne (hne x C fs q)]; exact (R.ddo _ _ _ q).2.2
  · have hx : x ≠ a := fun h => by subst h; rw [upd_self] at q; cases q; exact absurd rfl (hi _ _)
    have hy : y ≠ a := fun h => by subst h; rw [upd_self] at q'; cases q'; exact absurd rfl (hi _ _)
    rw [upd_ne hx] at q; rw [upd_ne hy] at q'
    exact R.inj x y C fs C' fs' q q' z
/-- A new instance. -/
theorem Rep.addI {b h h' : Heap} {L a d C : Addr} {dd : Addr → Addr} {H : AH} {fs : List (Str × Value)} {es : List DictEntry} {n : Nat} (R : Rep b L h dd H) (hn : h.get? a = none) (hnd : h.get? d = none) (had : a ≠ d) (hb : b.get? a = none) (hbd : b.get? d = none) (hL : a ≠ L) (hdL : d ≠ L)
    (k : ∀ x ob, x ≠ L → h.get? x = some ob → h'.get? x = some ob) (ha : h'.get? a = some (instObj C d)) (hd : h'.get? d = some (dictOf es n)) (hf : FieldsAre es fs) :
    ∃ dd', Rep b L h' dd' (upd H a (.inst C fs)) ∧ H a = none := by
  have none_of : ∀ x, h.get? x = none → H x = none := fun x hx => by
    cases q : H x with
    | none => rfl
    | some o => obtain ⟨y, e⟩ := (R.own _ _ q).2.2.there; rw [hx] at e; cases e
  have dd_ne : ∀ x C fs y, H x = some (.inst C fs) → h.get? y = none → dd x ≠ y := fun x C fs y q hy z => by
    obtain ⟨_, es, n, e, _⟩ := (R.own _ _ q).2.2; rw [z, hy] at e; cases e
  have hH := none_of a hn
  refine ⟨fun x => if x = a then d else dd x, ⟨fun x ox q => ?_, fun x C₁ fs₁ q => ?_, fun x y C₁ fs₁ C₂ fs₂ q q' z => ?_⟩, hH⟩
  · by_cases hx : x = a
    · subst hx; rw [upd_self] at q; cases q
      refine ⟨hb, hL, ?_⟩
      simp only [ObjIs, if_true]
      exact ⟨ha, es, n, hd, hf⟩
    · rw [upd_ne hx] at q
      exact ⟨(R.own _ _ q).1, (R.own _ _ q).2.1, (R.own _ _ q).2.2.mono (fun y => k x y (R.own _ _ q).2.1) fun C fs z => ⟨by simp [hx], fun y => k _ y (R.ddo x C fs (z ▸ q)).2.1⟩⟩
  · by_cases hx : x = a
    · subst hx; rw [upd_self] at q; cases q
      simp only [if_true]
      exact ⟨hbd, hdL, by rw [upd_ne (Ne.symm had)]; exact none_of d hnd⟩
    · rw [upd_ne hx] at q
      simp only [if_neg hx]
      refine ⟨(R.ddo _ _ _ q).1, (R.ddo _ _ _ q).2.1, ?_⟩
      rw [upd_ne (dd_ne x _ _ a q hn)]; exact (R.ddo _ _ _ q).2.2
  · by_cases hx : x = a <;> by_cases hy : y = a
    · rw [hx, hy]
    · subst hx
      rw [upd_ne hy] at q'
      simp only [if_true, if_neg hy] at z
      exact absurd z.symm (dd_ne y _ _ d q' hnd)
    · subst hy
      rw [upd_ne hx] at q
      simp only [if_true, if_neg hx] at z
      exact absurd z (dd_ne x _ _ d q hnd)
    · rw [upd_ne hx] at q; rw [upd_ne hy] at q'
      simp only [if_neg hx, if_neg hy] at z
      exact R.inj x y _ _ _ _ q q' z

/-! The whole ledger of a heap over its ground: everything that is neither of the ground nor the frame's. -/
def full (b : Heap) (L : Addr) (h : Heap) : List (Addr × Obj) :=
  ((List.range h.objs.size).filter fun a => a != L && (b.get? a).isNone && (h.get? a).isSome).map fun a => (a, (h.get? a).getD default)
theorem mem_full {b h : Heap} {L a : Addr} {o : Obj} : (a, o) ∈ full b L h ↔ h.get? a = some o ∧ a ≠ L ∧ b.get? a = none := by
  unfold full
  rw [List.mem_map]
  constructor
  · rintro ⟨x, hx, e⟩
    obtain ⟨_, h2⟩ := List.mem_filter.mp hx
    simp only [Bool.and_eq_true, bne_iff_ne, ne_eq, Option.isNone_iff_eq_none] at h2
    obtain ⟨⟨h3, h4⟩, h5⟩ := h2
    obtain ⟨y, hy⟩ := Option.isSome_iff_exists.mp h5
    rw [hy] at e
    cases e
    exact ⟨hy, h3, h4⟩
  · rintro ⟨e, hL, hb⟩
    refine ⟨a, List.mem_filter.mpr ⟨List.mem_range.mpr (Heap.lt_size e), ?_⟩, by rw [e]; rfl⟩
    simp [hL, hb, e]
theorem full_news (b : Heap) (L : Addr) (h : Heap) : News b L h (full b L h) := fun p hp => mem_full.mp hp
theorem full_nodup (b : Heap) (L : Addr) (h : Heap) : ((full b L h).map (·.1)).Nodup := by
  unfold full
  rw [List.map_map]
  have : ((fun (x : Addr × Obj) => x.1) ∘ fun a => (a, (h.get? a).getD default)) = id := rfl
  rw [this, List.map_id]
  exact List.Pairwise.filter _ List.nodup_range
theorem upd_of {d : Addr} {o o' : Obj} : ∀ {l : List (Addr × Obj)}, (l.map (·.1)).Nodup → (d, o) ∈ l → ∃ l', Upd d o o' l l' ∧ (d, o') ∈ l' ∧ ∀ p ∈ l, p.1 ≠ d → p ∈ l'
  | [], _, hm => nomatch hm
  | p :: r, hn, hm => by
    obtain ⟨h1, h2⟩ := List.nodup_cons.mp hn
    rcases List.mem_cons.mp hm with e | hm
    · subst e
      exact ⟨(d, o') :: r, .head fun q hq e => h1 (List.mem_map.mpr ⟨q, hq, e⟩), List.mem_cons_self, fun q hq hne => by
        rcases List.mem_cons.mp hq with rfl | hq
        · exact absurd rfl hne
        · exact List.mem_cons_of_mem _ hq⟩
    · have hne : p.1 ≠ d := fun e => h1 (List.mem_map.mpr ⟨_, hm, e.symm⟩)
      obtain ⟨l', U, a, c⟩ := upd_of (o' := o') h2 hm
      exact ⟨p :: l', .tail hne U, List.mem_cons_of_mem _ a, fun q hq hq' => by
        rcases List.mem_cons.mp hq with rfl | hq
        · exact List.mem_cons_self
        · exact List.mem_cons_of_mem _ (c q hq hq')⟩
theorem stays_full {b h h' : Heap} {L : Addr} {m m' : Str → Option Value} {news : List (Addr × Obj)} {P : Addr → Prop} (F : Fr b L h m) (F' : Fr b L h' m') (N' : News b L h' news) (c : ∀ p ∈ full b L h, ¬ P p.1 → p ∈ news)
    (hb : ∀ a, P a → b.get? a = none) : ∀ x o, ¬ P x → x ≠ L → h.get? x = some o → h'.get? x = some o := fun x o hP hL e => by
  cases q : b.get? x with
  | some ob =>
    have := F.keep x ob q
    rw [e] at this; cases this
    exact F'.keep x o q
  | none => exact (N' _ (c (x, o) (mem_full.mpr ⟨e, hL, q⟩) hP)).1
/-- An object is forgotten; its place may come to anything. -/
theorem Rep.drop {b h h' : Heap} {L a : Addr} {dd : Addr → Addr} {H : AH} {o : AO} (R : Rep b L h dd H) (e : H a = some o) (hi : ∀ C fs, o ≠ .inst C fs)
    (k : ∀ x ob, x ≠ a → x ≠ L → h.get? x = some ob → h'.get? x = some ob) : Rep b L h' dd (dropA H a) := by
  have g : ∀ x ox, dropA H a x = some ox → x ≠ a ∧ H x = some ox := fun x ox q => dropA_some q
  refine ⟨fun x ox q => ?_, fun x C fs q => ?_, fun x y C fs C' fs' q q' z => R.inj x y C fs C' fs' (g _ _ q).2 (g _ _ q').2 z⟩
  · obtain ⟨hx, q⟩ := g _ _ q
    refine ⟨(R.own _ _ q).1, (R.own _ _ q).2.1, (R.own _ _ q).2.2.mono (fun y => k x y hx (R.own _ _ q).2.1) fun C fs z => ⟨rfl, fun y => k _ y ?_ (R.ddo x C fs (z ▸ q)).2.1⟩⟩
    subst z
    intro z
    have := (R.ddo x C fs q).2.2; rw [z, e] at this; cases this
  · obtain ⟨hx, q⟩ := g _ _ q
    refine ⟨(R.ddo _ _ _ q).1, (R.ddo _ _ _ q).2.1, ?_⟩
    unfold dropA
    split
    · rfl
    · exact (R.ddo _ _ _ q).2.2

/-! The heap of a state goes on. -/
def Keep (S : Addr → Prop) (H H' : AH) : Prop := ∀ x o, ¬ S x → H x = some o → H' x = some o
theorem Keep.refl {S : Addr → Prop} {H : AH} : Keep S H H := fun _ _ _ e => e
theorem Keep.trans {S : Addr → Prop} {H₁ H₂ H₃ : AH} (a : Keep S H₁ H₂) (c : Keep S H₂ H₃) : Keep S H₁ H₃ := fun x o hx e => c x o hx (a x o hx e)
theorem Keep.trans' {S T : Addr → Prop} {H₁ H₂ H₃ : AH} (a : Keep S H₁ H₂) (c : Keep T H₂ H₃) (k : ∀ x, T x → H₁ x = none ∨ S x) : Keep S H₁ H₃ := fun x o hx e =>
  c x o (fun t => (k x t).elim (fun q => by rw [q] at e; cases e) hx) (a x o hx e)
theorem Keep.weak {S T : Addr → Prop} {H₁ H₂ : AH} (a : Keep S H₁ H₂) (k : ∀ x, S x → T x) : Keep T H₁ H₂ := fun x o hx e => a x o (fun s => hx (k x s)) e
theorem Keep.upd {S : Addr → Prop} {H : AH} {a : Addr} {o : AO} (h : S a) : Keep S H (upd H a o) := fun x ox hx e => by
  have : x ≠ a := fun z => hx (z ▸ h)
  rw [upd_ne this]; exact e
theorem Keep.new {S : Addr → Prop} {H : AH} {a : Addr} {o : AO} (h : H a = none) : Keep S H (Mine.upd H a o) := fun x ox hx e => by
  have : x ≠ a := fun z => by subst z; rw [h] at e; cases e
  rw [upd_ne this]; exact e
theorem Keep.get {S : Addr → Prop} {H H' : AH} (k : Keep S H H') {x : Addr} {o : AO} (e : H x = some o) (hx : ¬ S x) : H' x = some o := k x o hx e
/-- nothing that stood is changed -/
abbrev Same (H H' : AH) : Prop := Keep (fun _ => False) H H'
theorem Keep.at {H H' : AH} (k : Same H H') {x : Addr} {o : AO} (e : H x = some o) : H' x = some o := k x o id e
theorem Same.weak {S : Addr → Prop} {H H' : AH} (k : Same H H') : Keep S H H' := fun x o _ e => k x o id e

theorem Sat.push {b h : Heap} {L : Addr} {F : AH} {σ : St} {ob : Obj} {o : AO} (S : Sat b L F h σ) (hf : ob.isFreed = false) (hi : ∀ C fs, o ≠ .inst C fs) (ho : ∀ dd, ObjIs (h.push ob) dd h.objs.size o) :
    Sat b L F (h.push ob) ⟨σ.m, Mine.upd σ.H h.objs.size o⟩ ∧ σ.H h.objs.size = none := by
  obtain ⟨m', dd, Fm, e, R, D⟩ := S.ex
  have hn : h.get? h.objs.size = none := by
    cases q : h.get? h.objs.size with
    | none => rfl
    | some x => exact absurd (Heap.lt_size q) (Nat.lt_irrefl _)
  have hb : b.get? h.objs.size = none := by
    cases q : b.get? h.objs.size with
    | none => rfl
    | some x => have := Fm.keep _ _ q; rw [hn] at this; cases this
  have hL : h.objs.size ≠ L := Nat.ne_of_gt Fm.ns.lt
  obtain ⟨R', hH⟩ := R.add (h' := h.push ob) hn hb hL hi (fun x y _ q => Heap.get?_push_of_some _ q) (ho dd)
  exact ⟨⟨m', dd, Fm.push _, e, upd_orF ▸ R', D.upd (orF_n hH).2⟩, (orF_n hH).1⟩
/-- A new object that is not kept in mind. -/
theorem Sat.push_ {b h : Heap} {L : Addr} {F : AH} {σ : St} {ob : Obj} (S : Sat b L F h σ) : Sat b L F (h.push ob) σ := by
  obtain ⟨m', dd, Fm, e, R, D⟩ := S.ex
  exact ⟨m', dd, Fm.push _, e, R.same fun x o _ q => Heap.get?_push_of_some _ q, D⟩
theorem Sat.obj {b h : Heap} {L a : Addr} {F : AH} {σ : St} {o : AO} (S : Sat b L F h σ) (e : σ.H a = some o) : ∃ dd, ObjIs h dd a o := by
  obtain ⟨m', dd, Fm, _, R, D⟩ := S.ex
  exact ⟨dd, (R.own _ _ (orF_l e)).2.2⟩
/-- One object that is no instance is changed in its place. -/
theorem Sat.set {b h h' : Heap} {L a : Addr} {F : AH} {σ : St} {o o' : AO} (S : Sat b L F h σ) (e : σ.H a = some o) (hi : ∀ C fs, o ≠ .inst C fs) (hi' : ∀ C fs, o' ≠ .inst C fs) (hs : Heap.SameBut a h h') (ho : ∀ dd, ObjIs h' dd a o') :
    Sat b L F h' ⟨σ.m, Mine.upd σ.H a o'⟩ := by
  obtain ⟨m', dd, Fm, em, R, D⟩ := S.ex
  obtain ⟨hb, hL, _⟩ := R.own _ _ (orF_l e)
  refine ⟨m', dd, ⟨Fm.ns.sameBut hs (Ne.symm hL), fun y ob q => (hs.2 y fun z => ?_).trans (Fm.keep y ob q), Fm.above⟩, em, upd_orF ▸ R.set (orF_l e) hi hi' (fun x ob hx _ q => (hs.2 x hx).trans q) (ho dd), D.upd (D.at e)⟩
  rw [z, hb] at q; cases q
theorem Sat.drop {b h h' : Heap} {L a : Addr} {F : AH} {σ : St} {o : AO} (S : Sat b L F h σ) (e : σ.H a = some o) (hi : ∀ C fs, o ≠ .inst C fs) (hs : Heap.ExtBut a h h') :
    Sat b L F h' ⟨σ.m, dropA σ.H a⟩ := by
  obtain ⟨m', dd, Fm, em, R, D⟩ := S.ex
  obtain ⟨hb, hL, _⟩ := R.own _ _ (orF_l e)
  refine ⟨m', dd, ⟨Fm.ns.extBut hs (Ne.symm hL), fun y ob q => hs y ob (fun z => ?_) (Fm.keep y ob q), Fm.above⟩, em, drop_orF (D.at e) ▸ R.drop (orF_l e) hi fun x ob hx _ q => hs x ob hx q, D.drop a⟩
  rw [z, hb] at q; cases q
/-- What is in reach goes out of reach, and back. -/
theorem Sat.frame {b h : Heap} {L : Addr} {F F' H : AH} {m : Str → Option Value} (S : Sat b L F h ⟨m, orF H F'⟩) (D' : Disj H F') : Sat b L (orF F' F) h ⟨m, H⟩ := by
  obtain ⟨m', dd, Fm, em, R, D⟩ := S.ex
  have e : orF (orF H F') F = orF H (orF F' F) := by funext x; unfold orF; exact Option.or_assoc
  refine ⟨m', dd, Fm, em, e ▸ R, fun x => ?_⟩
  show H x = none ∨ _
  cases q : H x with
  | none => exact .inl rfl
  | some o =>
    refine .inr ?_
    have h1 := D'.at q
    have h2 := D.at (a := x) (o := o) (orF_l q)
    show (F' x).or (F x) = none
    rw [h1, h2]; rfl
theorem Sat.unframe {b h : Heap} {L : Addr} {F F' H : AH} {m : Str → Option Value} (S : Sat b L (orF F' F) h ⟨m, H⟩) (D' : Disj F' F) : Sat b L F h ⟨m, orF H F'⟩ ∧ Disj H F' := by
  obtain ⟨m', dd, Fm, em, R, D⟩ := S.ex
  have e : orF H (orF F' F) = orF (orF H F') F := by funext x; unfold orF; exact Option.or_assoc.symm
  refine ⟨⟨m', dd, Fm, em, e ▸ R, fun x => ?_⟩, fun x => ?_⟩
  · cases q : F x with
    | none => exact .inr rfl
    | some o =>
      refine .inl ?_
      have h2 : F' x = none := (D' x).resolve_right (by rw [q]; simp)
      have h1 : H x = none := (D x).resolve_right (by show (F' x).or (F x) ≠ none; rw [h2, q]; simp)
      show (H x).or (F' x) = none
      rw [h1, h2]; rfl
  · cases q : F' x with
    | none => exact .inr rfl
    | some o => exact .inl ((D x).resolve_right (by show (F' x).or (F x) ≠ none; rw [q]; simp))
end Mine
end
section
set_option maxRecDepth 100000
set_option Elab.async false
set_option linter.unusedVariables false
namespace Mine
open PySem PySem.W PySem.Calls PyProof.Rows

structure Cx where
  prog : Program
  w : World
  A : Around
  b : Heap
  L : Addr
  F : AH

def Tr (C : Cx) {α : Type} (t : Sem α) (σ : St) (Φ : α → St → Prop) : Prop :=
  ∀ s : Shared, Sat C.b C.L C.F s.heap σ → wpAny (model C.prog C.w) C.A t (fun a s' => ∃ σ' h tk, s' = { s with heap := h, toks := tk } ∧ Sat C.b C.L C.F h σ' ∧ Φ a σ') (fun _ _ => False) s

theorem Tr.run {C : Cx} {α : Type} {t : Sem α} {σ : St} {Φ : α → St → Prop} {s : Shared} {Q : α → Shared → Prop} {E : Value → Shared → Prop} (T : Tr C t σ Φ) (S : Sat C.b C.L C.F s.heap σ)
    (k : ∀ a σ' h tk, Sat C.b C.L C.F h σ' → Φ a σ' → Q a { s with heap := h, toks := tk }) : wpAny (model C.prog C.w) C.A t Q E s :=
  wpAny_mono (T s S) (fun a s' ⟨σ', h, tk, e, S', p⟩ => e ▸ k a σ' h tk S' p) fun _ _ x => x.elim
theorem Tr.mono {C : Cx} {α : Type} {t : Sem α} {σ : St} {Φ Ψ : α → St → Prop} (T : Tr C t σ Φ) (k : ∀ a σ', Φ a σ' → Ψ a σ') : Tr C t σ Ψ :=
  fun s S => T.run S fun a σ' h tk S' p => ⟨σ', h, tk, rfl, S', k a σ' p⟩
theorem Tr.bind {C : Cx} {α β : Type} {t : Sem α} {f : α → Sem β} {σ : St} {Φ : β → St → Prop} (T : Tr C t σ (fun a σ' => Tr C (f a) σ' Φ)) : Tr C (t >>= f) σ Φ :=
  fun s S => wpAny_bind (T.run S fun a σ' h tk S' p => p.run S' fun a σ' h tk S' p => ⟨σ', h, tk, rfl, S', p⟩)
theorem Tr.pure {C : Cx} {α : Type} {a : α} {σ : St} {Φ : α → St → Prop} (p : Φ a σ) : Tr C (pure a : Sem α) σ Φ :=
  fun s S => wpAny_pure ⟨σ, s.heap, s.toks, rfl, S, p⟩
theorem Sat.le {b : Heap} {L : Addr} {F : AH} {h : Heap} {σ σ' : St} (S : Sat b L F h σ) (e : σ'.m = σ.m) (k : ∀ a o, σ'.H a = some o → σ.H a = some o) : Sat b L F h σ' := by
  obtain ⟨m', dd, Fm, q, R, D⟩ := S.ex
  have D' : Disj σ'.H F := fun a => by
    cases z : σ'.H a with
    | none => exact .inl rfl
    | some o => exact .inr (D.at (k _ _ z))
  refine ⟨m', dd, Fm, fun x => e ▸ q x, R.le fun a o z => ?_, D'⟩
  rcases orF_some z with z | ⟨_, z⟩
  · exact orF_l (k _ _ z)
  · show (σ.H a).or (F a) = some o
    rw [(D a).resolve_right (by rw [z]; simp)]; exact z
/-- The state may forget. -/
theorem Tr.le {C : Cx} {α : Type} {t : Sem α} {σ : St} {H : AH} {Φ : α → St → Prop} (T : Tr C t ⟨σ.m, H⟩ Φ) (k : ∀ a o, H a = some o → σ.H a = some o) : Tr C t σ Φ :=
  fun s S => T s (Sat.le (σ' := ⟨σ.m, H⟩) S rfl k)
/-- What a tree does not touch stands aside. -/
theorem Tr.frame {C : Cx} {α : Type} {t : Sem α} {m : Str → Option Value} {H F' : AH} {Φ : α → St → Prop} (D : Disj H F') (T : Tr { C with F := orF F' C.F } t ⟨m, H⟩ Φ) :
    Tr C t ⟨m, orF H F'⟩ fun a σ' => ∃ H', σ'.H = orF H' F' ∧ Disj H' F' ∧ Φ a ⟨σ'.m, H'⟩ := fun s S => by
  obtain ⟨_, _, _, _, _, D₀⟩ := id S.ex
  have D₁ : Disj F' C.F := fun x => by
    cases q : F' x with
    | none => exact .inl rfl
    | some o => exact .inr ((D₀ x).resolve_left (by
        show (H x).or (F' x) ≠ none
        rw [q]; cases H x <;> simp))
  refine wpAny_mono (T s (S.frame D)) (fun a s' ⟨σ', h, tk, e, S', p⟩ => ?_) fun _ _ x => x
  obtain ⟨S'', D'⟩ := Sat.unframe (m := σ'.m) (H := σ'.H) S' D₁
  exact ⟨⟨σ'.m, orF σ'.H F'⟩, h, tk, e, S'', σ'.H, rfl, D', p⟩
/-- A tree that leaves the heap as it is. -/
theorem Tr.of {C : Cx} {α : Type} {t : Sem α} {σ : St} {Φ : α → St → Prop} {P : α → Prop} (T : ∀ (s : Shared) (Q : α → Shared → Prop), Sat C.b C.L C.F s.heap σ → (∀ a k, P a → Q a { s with toks := k }) → wpAny (model C.prog C.w) C.A t Q (fun _ _ => False) s)
    (k : ∀ a, P a → Φ a σ) : Tr C t σ Φ := fun s S => T s _ S fun a tk p => ⟨σ, s.heap, tk, rfl, S, k a p⟩

def erF : Flow → Flow
  | .ret v => .ret (er v)
  | f => f

def Ev (C : Cx) (env : Env) (e : Expr) (σ : St) (Φ : Value → St → Prop) : Prop := Tr C (eval e env) σ fun v σ' => Φ (er v) σ'
def Pe (C : Cx) (env : Env) (e : Expr) (σ : St) (v : Value) : Prop := Ev C env e σ fun v' σ' => v' = v ∧ σ' = σ
def It (C : Cx) (env : Env) (e : Expr) (σ : St) (Φ : Bool → St → Prop) : Prop := Tr C (isTrue e env (eval e env)) σ Φ
def Pt (C : Cx) (env : Env) (e : Expr) (σ : St) (c : Bool) : Prop := It C env e σ fun b σ' => b = c ∧ σ' = σ
def Exs (C : Cx) (env : Env) (ss : List Stmt) (σ : St) (Φ : Flow → St → Prop) : Prop := Tr C (execs ss env) σ fun f σ' => Φ (erF f) σ'
def Ex (C : Cx) (env : Env) (st : Stmt) (σ : St) (Φ : Flow → St → Prop) : Prop := Tr C (exec st env) σ fun f σ' => Φ (erF f) σ'

section
variable {C : Cx} {env : Env} {e l r : Expr} {σ : St} {Φ : Value → St → Prop} {v a c : Value} {pos : Pos}
theorem Pe.ev (P : Pe C env e σ v) (h : Φ v σ) : Ev C env e σ Φ := Tr.mono P fun _ _ ⟨p, q⟩ => by rw [p, q]; exact h
theorem Ev.mono {Ψ : Value → St → Prop} (T : Ev C env e σ Φ) (k : ∀ a σ', Φ a σ' → Ψ a σ') : Ev C env e σ Ψ := Tr.mono T fun _ _ p => k _ _ p
theorem Pt.it {Φ : Bool → St → Prop} {x : Bool} (P : Pt C env e σ x) (h : Φ x σ) : It C env e σ Φ := Tr.mono P fun _ _ ⟨p, q⟩ => by rw [p, q]; exact h
theorem It.mono {Φ Ψ : Bool → St → Prop} (T : It C env e σ Φ) (k : ∀ a σ', Φ a σ' → Ψ a σ') : It C env e σ Ψ := Tr.mono T fun _ _ p => k _ _ p
theorem Ex.mono {st : Stmt} {Φ Ψ : Flow → St → Prop} (T : Ex C env st σ Φ) (k : ∀ a σ', Φ a σ' → Ψ a σ') : Ex C env st σ Ψ := Tr.mono T fun _ _ p => k _ _ p
theorem Exs.mono {st : List Stmt} {Φ Ψ : Flow → St → Prop} (T : Exs C env st σ Φ) (k : ∀ a σ', Φ a σ' → Ψ a σ') : Exs C env st σ Ψ := Tr.mono T fun _ _ p => k _ _ p

/-! Constants and names -/
theorem Ev.int {i : Int} {k : Nat} (h : Φ (.int i 0) σ) : Ev C env (.Constant (.int i) k pos) σ Φ := fun s S => wpAny_Constant_int ⟨σ, s.heap, _, rfl, S, h⟩
theorem Ev.str {i : Str} {k : Nat} (h : Φ (.str i 0) σ) : Ev C env (.Constant (.str i) k pos) σ Φ := fun s S => wpAny_Constant_str ⟨σ, s.heap, _, rfl, S, h⟩
theorem Ev.bool {i : Bool} {k : Nat} (h : Φ (.bool i) σ) : Ev C env (.Constant (.bool i) k pos) σ Φ := fun s S => wpAny_Constant_bool ⟨σ, s.heap, _, rfl, S, h⟩
theorem Ev.none_ {k : Nat} (h : Φ .none σ) : Ev C env (.Constant .none k pos) σ Φ := fun s S => wpAny_Constant_none ⟨σ, s.heap, _, rfl, S, h⟩
theorem Pe.int {i : Int} {k : Nat} : Pe C env (.Constant (.int i) k pos) σ (.int i 0) := Ev.int ⟨rfl, rfl⟩
theorem Pe.str {i : Str} {k : Nat} : Pe C env (.Constant (.str i) k pos) σ (.str i 0) := Ev.str ⟨rfl, rfl⟩
theorem Pe.bool {i : Bool} {k : Nat} : Pe C env (.Constant (.bool i) k pos) σ (.bool i) := Ev.bool ⟨rfl, rfl⟩
theorem Pe.none_ {k : Nat} : Pe C env (.Constant .none k pos) σ .none := Ev.none_ ⟨rfl, rfl⟩

theorem tr_local {x : Str} {Ψ : Value → St → Prop} (hk : env.scope.kind = .function) (hl : env.kindOf x = some .local) (hL : env.locals = C.L) (hv : σ.m x = some v) (h : ∀ v', er v' = v → Ψ v' σ) : Tr C (loadName env x) σ Ψ := fun s S => by
  obtain ⟨m', dd, F, e, R, D⟩ := id S.ex
  have := e x
  rw [hv] at this
  obtain ⟨v', h1, h2⟩ := Option.map_eq_some_iff.mp this
  exact wpAny_loadName_local hk hl (hL ▸ F.ns) h1 ⟨σ, s.heap, s.toks, rfl, S, h _ h2⟩
theorem Pe.loc {x : Str} (hk : env.scope.kind = .function) (hl : env.kindOf x = some .local) (hL : env.locals = C.L) (hd : (x == ("__debug__" : Str)) = false) (hv : σ.m x = some v) : Pe C env (.Name x pos) σ v :=
  fun s S => wpAny_Name (tr_local hk hl hL hv (fun v' e => (⟨e, rfl⟩ : er v' = v ∧ σ = σ)) s S) hd
theorem Pe.cell {x : Str} {ca : Addr} (hk : env.scope.kind = .function) (hl : env.kindOf x = some .cell) (hc : env.cells.lookup x = some ca) (hd : (x == ("__debug__" : Str)) = false) (hv : σ.H ca = some (.cell v)) : Pe C env (.Name x pos) σ v := fun s S => by
  obtain ⟨m', dd, F, e, R, D⟩ := id S.ex
  obtain ⟨o, v', h1, h2, h3⟩ := (R.own _ _ (orF_l hv)).2.2
  exact wpAny_Name (wpAny_loadName_cell hk hl hc ⟨o, h1, h2⟩ ⟨σ, s.heap, s.toks, rfl, S, h3, rfl⟩) hd
end

/-! The ground: what the text's own objects are. -/
structure Ground0 (K : Frag) (p : Program) (loose : List Str) (b : Heap) : Prop where
  inK : K.In b
  top : ∃ mg mb, TopRead p loose mg mb b
theorem Ground0.keeps {K : Frag} {p : Program} {loose : List Str} {b b' : Heap} (G : Ground0 K p loose b) (k : ∀ x o, b.get? x = some o → b'.get? x = some o) : Ground0 K p loose b' :=
  ⟨G.inK.keeps k, let ⟨mg, mb, T⟩ := G.top; ⟨mg, mb, T.keeps k⟩⟩

section
variable {C : Cx} {env : Env} {σ : St} {Φ : Value → St → Prop} {v a c : Value} {pos : Pos} {K : Frag} {p : Program} {loose : List Str} {x : Str}
theorem Pe.glob (G : Ground0 K p loose C.b) (hk : env.scope.kind = .function) (hl : env.kindOf x = some .globalImplicit) (hg : env.globals = mainGlobals) (hd : (x == ("__debug__" : Str)) = false)
    (hv : nsIn K mainGlobals x = Option.some (Option.some v)) : Pe C env (.Name x pos) σ (er v) := fun s S => by
  obtain ⟨m', dd, F, e, R, D⟩ := id S.ex
  obtain ⟨mg, mb, T⟩ := G.top
  exact Name_function_global hk hl (loadGlobal_global (env := env) (by rw [hg]; exact T.g.keeps F.keep) (mg_of G.inK T.g hv) ⟨σ, s.heap, s.toks, rfl, S, rfl, rfl⟩) hd
theorem Pe.built (G : Ground0 K p loose C.b) (hk : env.scope.kind = .function) (hl : env.kindOf x = some .globalImplicit) (hg : env.globals = mainGlobals) (hb : env.builtins = builtinsNs) (hd : (x == ("__debug__" : Str)) = false)
    (he : nsIn K mainGlobals x = Option.some Option.none) (hv : bootBuiltins x = Option.some v) (hn : x ≠ "__name__") : Pe C env (.Name x pos) σ (er v) := fun s S => by
  obtain ⟨m', dd, F, e, R, D⟩ := id S.ex
  obtain ⟨mg, mb, T⟩ := G.top
  exact Name_function_global hk hl (loadGlobal_builtin (env := env) (by rw [hg]; exact T.g.keeps F.keep) (mg_none_of G.inK T.g he) (by rw [hb]; exact T.b.keeps F.keep) ((T.builtins x hn).trans hv) ⟨σ, s.heap, s.toks, rfl, S, rfl, rfl⟩) hd
end

/-! Operators -/
def OpTo (C : Cx) (op : Operator) (a b r : Value) : Prop := ∀ va vb, er va = a → er vb = b → ∀ (s : Shared) (Q : Value → Shared → Prop) (E : Value → Shared → Prop), (∀ v k, er v = r → Q v { s with toks := k }) →
  wpAny (model C.prog C.w) C.A (binaryOp op va vb) Q E s
def CmpTo (C : Cx) (op : CmpOp) (a b : Value) (r : Bool) : Prop := ∀ va vb, er va = a → er vb = b → ∀ (s : Shared) (Q : Value → Shared → Prop) (E : Value → Shared → Prop), (∀ k, Q (.bool r) { s with toks := k }) →
  wpAny (model C.prog C.w) C.A (compareOp op va vb) Q E s
section
variable {C : Cx} {x y : Int} {t u : Tok}
theorem OpTo.int2 {op : Operator} {z : Int} (h : ∀ {t u : Tok} {s : Shared} {Q : Value → Shared → Prop} {E : Value → Shared → Prop}, Q (.int z s.toks) { s with toks := s.toks + 1 } → wpAny (model C.prog C.w) C.A (binaryOp op (.int x t) (.int y u)) Q E s) :
    OpTo C op (.int x t) (.int y u) (.int z 0) := fun va vb ha hb s Q E k => by
  obtain ⟨_, rfl⟩ := er_int ha; obtain ⟨_, rfl⟩ := er_int hb
  exact h (k _ _ rfl)
theorem CmpTo.int2 {op : CmpOp} {z : Bool} (h : ∀ {t u : Tok} {s : Shared} {Q : Value → Shared → Prop} {E : Value → Shared → Prop}, Q (.bool z) s → wpAny (model C.prog C.w) C.A (compareOp op (.int x t) (.int y u)) Q E s) :
    CmpTo C op (.int x t) (.int y u) z := fun va vb ha hb s Q E k => by
  obtain ⟨_, rfl⟩ := er_int ha; obtain ⟨_, rfl⟩ := er_int hb
  exact h (k s.toks)
theorem OpTo.add : OpTo C .Add (.int x t) (.int y u) (.int (x + y) 0) := .int2 add_int
theorem OpTo.sub : OpTo C .Sub (.int x t) (.int y u) (.int (x - y) 0) := .int2 sub_int
theorem OpTo.mod (hy : y ≠ 0) : OpTo C .Mod (.int x t) (.int y u) (.int (x.fmod y) 0) := .int2 (mod_int' hy)
theorem OpTo.div (hy : y ≠ 0) (hl : y.natAbs.log2 < 9000) : OpTo C .FloorDiv (.int x t) (.int y u) (.int (x.fdiv y) 0) := .int2 fun h => floordiv_int hy h (.inl (PyProof.noPylong_of_log2 hl))
theorem OpTo.pow (h0 : 0 ≤ y) (h1 : y ≤ 1000000) (hx : x.natAbs < 2 ^ 64) : OpTo C .Pow (.int x t) (.int y u) (.int (x ^ y.toNat) 0) := .int2 (pow_int_small h0 h1 hx)
theorem CmpTo.eq : CmpTo C .Eq (.int x t) (.int y u) (x == y) := .int2 eq_int
theorem CmpTo.ne : CmpTo C .NotEq (.int x t) (.int y u) (x != y) := .int2 ne_int
theorem CmpTo.lt : CmpTo C .Lt (.int x t) (.int y u) (decide (x < y)) := .int2 lt_int
theorem CmpTo.le : CmpTo C .LtE (.int x t) (.int y u) (decide (x ≤ y)) := .int2 le_int
theorem CmpTo.gt : CmpTo C .Gt (.int x t) (.int y u) (decide (x > y)) := .int2 gt_int
theorem CmpTo.ge : CmpTo C .GtE (.int x t) (.int y u) (decide (x ≥ y)) := .int2 ge_int
theorem CmpTo.isNone {v : Value} : CmpTo C .Is v .none (v == .none) := fun va vb ha hb s Q E k => by
  rw [er_none hb]
  have : (va == Value.none) = (v == Value.none) := by subst ha; cases va <;> rfl
  exact is_none (this ▸ k s.toks)
theorem CmpTo.isNotNone {v : Value} : CmpTo C .IsNot v .none (!(v == .none)) := fun va vb ha hb s Q E k => by
  rw [er_none hb]
  have : (va == Value.none) = (v == Value.none) := by subst ha; cases va <;> rfl
  exact isNot_none (this ▸ k s.toks)
end

section
variable {C : Cx} {env : Env} {e l r : Expr} {σ : St} {Φ : Value → St → Prop} {v a b c : Value} {pos : Pos}
theorem Ev.binop {op : Operator} (h : Ev C env l σ fun a σ₁ => Ev C env r σ₁ fun b σ₂ => ∃ c, OpTo C op a b c ∧ Φ c σ₂) : Ev C env (.BinOp l op r pos) σ Φ := fun s S =>
  wpAny_BinOp (h.run S fun a σ₁ h₁ k₁ S₁ p₁ => p₁.run S₁ fun b σ₂ h₂ k₂ S₂ ⟨c, o, p₂⟩ => o _ _ rfl rfl _ _ _ fun v k e => ⟨σ₂, h₂, k, rfl, S₂, by dsimp only; rw [e]; exact p₂⟩)
theorem Pe.binop {op : Operator} (hl : Pe C env l σ a) (hr : Pe C env r σ b) (h : OpTo C op a b c) : Pe C env (.BinOp l op r pos) σ c :=
  Ev.binop (hl.ev (hr.ev ⟨c, h, rfl, rfl⟩))
theorem Ev.cmp {op : CmpOp} (hm : behindInMarks op r = false) (h : Ev C env l σ fun a σ₁ => Ev C env r σ₁ fun b σ₂ => ∃ c, CmpTo C op a b c ∧ Φ (.bool c) σ₂) : Ev C env (.Compare l [op] [r] pos) σ Φ := fun s S =>
  wpAny_Compare1 (h.run S fun a σ₁ h₁ k₁ S₁ p₁ => p₁.run S₁ fun b σ₂ h₂ k₂ S₂ ⟨c, o, p₂⟩ => o _ _ rfl rfl _ _ _ fun k => ⟨σ₂, h₂, k, rfl, S₂, p₂⟩) hm
theorem Pe.cmp {op : CmpOp} {c : Bool} (hl : Pe C env l σ a) (hr : Pe C env r σ b) (h : CmpTo C op a b c) (hm : behindInMarks op r = false) : Pe C env (.Compare l [op] [r] pos) σ (.bool c) :=
  Ev.cmp hm (hl.ev (hr.ev ⟨c, h, rfl, rfl⟩))
theorem It.cmp {Φ : Bool → St → Prop} {op : CmpOp} (hm : behindInMarks op r = false) (h : Ev C env l σ fun a σ₁ => Ev C env r σ₁ fun b σ₂ => ∃ c, CmpTo C op a b c ∧ Φ c σ₂) : It C env (.Compare l [op] [r] pos) σ Φ := fun s S =>
  wpAny_isTrue_Compare1 (h.run S fun a σ₁ h₁ k₁ S₁ p₁ => p₁.run S₁ fun b σ₂ h₂ k₂ S₂ ⟨c, o, p₂⟩ => o _ _ rfl rfl _ _ _ fun k => wpAny_truthy_bool ⟨σ₂, h₂, k, rfl, S₂, p₂⟩) hm
theorem Pt.cmp {op : CmpOp} {c : Bool} (hl : Pe C env l σ a) (hr : Pe C env r σ b) (h : CmpTo C op a b c) (hm : behindInMarks op r = false) : Pt C env (.Compare l [op] [r] pos) σ c :=
  It.cmp hm (hl.ev (hr.ev ⟨c, h, rfl, rfl⟩))
theorem It.not {Φ : Bool → St → Prop} (h : It C env e σ fun x σ₁ => Φ (!x) σ₁) : It C env (.UnaryOp .Not e pos) σ Φ := fun s S =>
  wpAny_isTrue_Not (h.run S fun a σ₁ h₁ k₁ S₁ p₁ => ⟨σ₁, h₁, k₁, rfl, S₁, p₁⟩)
theorem Pt.not {x : Bool} (h : Pt C env e σ x) : Pt C env (.UnaryOp .Not e pos) σ (!x) := It.not (h.it ⟨rfl, rfl⟩)
theorem Ev.neg {i : Int} {t : Tok} (h : Pe C env e σ (.int i t)) : Pe C env (.UnaryOp .USub e pos) σ (.int (-i) 0) := fun s S =>
  wpAny_UnaryOp (h.run S fun a σ₁ h₁ k₁ S₁ ⟨p₁, q₁⟩ => by
    obtain ⟨_, rfl⟩ := er_int p₁
    exact neg_int ⟨σ₁, h₁, _, rfl, S₁, rfl, q₁⟩)
/-- and, or as tests -/
theorem It.and2 {Φ : Bool → St → Prop} (h : It C env l σ fun x σ₁ => if x then It C env r σ₁ Φ else Φ false σ₁) : It C env (.BoolOp .And [l, r] pos) σ Φ := fun s S =>
  wpAny_isTrue_BoolOp (wpAny_allTrue_And_cons (Tr.run h S fun x σ₁ h₁ k₁ S₁ p₁ => by
    cases x
    · exact ⟨σ₁, h₁, k₁, rfl, S₁, p₁⟩
    · exact wpAny_allTrue_And_cons (Tr.run p₁ S₁ fun x σ₂ h₂ k₂ S₂ p₂ => by
        cases x
        · exact ⟨σ₂, h₂, k₂, rfl, S₂, p₂⟩
        · exact wpAny_allTrue_And_nil ⟨σ₂, h₂, k₂, rfl, S₂, p₂⟩)))
theorem It.or2 {Φ : Bool → St → Prop} (h : It C env l σ fun x σ₁ => if x then Φ true σ₁ else It C env r σ₁ Φ) : It C env (.BoolOp .Or [l, r] pos) σ Φ := fun s S =>
  wpAny_isTrue_BoolOp (wpAny_allTrue_Or_cons (Tr.run h S fun x σ₁ h₁ k₁ S₁ p₁ => by
    cases x
    · exact wpAny_allTrue_Or_cons (Tr.run p₁ S₁ fun x σ₂ h₂ k₂ S₂ p₂ => by
        cases x
        · exact wpAny_allTrue_Or_nil ⟨σ₂, h₂, k₂, rfl, S₂, p₂⟩
        · exact ⟨σ₂, h₂, k₂, rfl, S₂, p₂⟩)
    · exact ⟨σ₁, h₁, k₁, rfl, S₁, p₁⟩))
theorem Pt.and2 {x y : Bool} (h : Pt C env l σ x) (h2 : x = true → Pt C env r σ y) : Pt C env (.BoolOp .And [l, r] pos) σ (x && y) := It.and2 (h.it (by
  cases x
  · exact ⟨rfl, rfl⟩
  · exact (h2 rfl).it ⟨rfl, rfl⟩))
theorem Pt.or2 {x y : Bool} (h : Pt C env l σ x) (h2 : x = false → Pt C env r σ y) : Pt C env (.BoolOp .Or [l, r] pos) σ (x || y) := It.or2 (h.it (by
  cases x
  · exact (h2 rfl).it ⟨rfl, rfl⟩
  · exact ⟨rfl, rfl⟩))
end

/-! Statements -/
section
variable {C : Cx} {env : Env} {e test value : Expr} {σ : St} {Φ : Flow → St → Prop} {st : Stmt} {ss body orelse : List Stmt} {pos : Pos}
theorem Exs.nil (h : Φ .next σ) : Exs C env [] σ Φ := fun s S => wpAny_execs_nil ⟨σ, s.heap, s.toks, rfl, S, h⟩
theorem Exs.cons (h : Ex C env st σ fun f σ₁ => match f with | .next => Exs C env ss σ₁ Φ | f => Φ f σ₁) : Exs C env (st :: ss) σ Φ := fun s S =>
  wpAny_execs_cons (Tr.run h S fun f σ₁ h₁ k₁ S₁ p₁ => by
    cases f
    · exact Tr.run p₁ S₁ fun f σ₂ h₂ k₂ S₂ p₂ => ⟨σ₂, h₂, k₂, rfl, S₂, p₂⟩
    · exact ⟨σ₁, h₁, k₁, rfl, S₁, p₁⟩
    · exact ⟨σ₁, h₁, k₁, rfl, S₁, p₁⟩
    · exact ⟨σ₁, h₁, k₁, rfl, S₁, p₁⟩)
theorem Ex.ret (h : Ev C env e σ fun v σ₁ => Φ (.ret v) σ₁) : Ex C env (.Return (some e) pos) σ Φ := fun s S =>
  wpAny_Return_some (Tr.run h S fun v σ₁ h₁ k₁ S₁ p₁ => ⟨σ₁, h₁, k₁, rfl, S₁, p₁⟩)
theorem Ex.ret0 (h : Φ (.ret .none) σ) : Ex C env (.Return none pos) σ Φ := fun s S => wpAny_Return_none ⟨σ, s.heap, s.toks, rfl, S, h⟩
theorem Ex.brk (h : Φ .brk σ) : Ex C env (.Break pos) σ Φ := fun s S => wpAny_Break ⟨σ, s.heap, s.toks, rfl, S, h⟩
theorem Ex.if_ (h : It C env test σ fun x σ₁ => if x then Exs C env body σ₁ Φ else Exs C env orelse σ₁ Φ) : Ex C env (.If test body orelse pos) σ Φ := fun s S =>
  wpAny_If (Tr.run h S fun x σ₁ h₁ k₁ S₁ p₁ => by
    cases x
    · exact Tr.run p₁ S₁ fun f σ₂ h₂ k₂ S₂ p₂ => ⟨σ₂, h₂, k₂, rfl, S₂, p₂⟩
    · exact Tr.run p₁ S₁ fun f σ₂ h₂ k₂ S₂ p₂ => ⟨σ₂, h₂, k₂, rfl, S₂, p₂⟩)
theorem Ex.ifP {c : Bool} (h : Pt C env test σ c) (h1 : c = true → Exs C env body σ Φ) (h2 : c = false → Exs C env orelse σ Φ) : Ex C env (.If test body orelse pos) σ Φ := Ex.if_ (h.it (by
  cases c
  · exact h2 rfl
  · exact h1 rfl))
theorem tr_store {x : Str} {v : Value} {Ψ : Unit → St → Prop} (hk : env.scope.kind = .function) (hl : env.kindOf x = some .local) (hL : env.locals = C.L) (h : Ψ () ⟨putM σ.m x (er v), σ.H⟩) : Tr C (storeName env x v) σ Ψ := fun s S => by
  obtain ⟨m', dd, F, e, R, D⟩ := id S.ex
  refine wpAny_storeName_local hl (hL ▸ F.ns) (fun h' hn hs => ⟨⟨putM σ.m x (er v), σ.H⟩, h', _, rfl, ⟨_, dd, F.set (hL ▸ hn) (hL ▸ hs), fun y => ?_, R.same fun y o hy ho => ((hL ▸ hs).2 y hy).trans ho, D⟩, h⟩) (by rw [hk]; rfl)
  dsimp only [putM]
  by_cases hy : y = x
  · simp [hy]
  · simp only [if_neg hy]; exact e y
theorem tr_storeC {x : Str} {v : Value} {ca : Addr} {o : AO} {Ψ : Unit → St → Prop} (hk : env.scope.kind = .function) (hl : env.kindOf x = some .cell) (hc : env.cells.lookup x = some ca) (hv : σ.H ca = some o) (ho : o = .hole ∨ ∃ v₀, o = .cell v₀)
    (h : Ψ () ⟨σ.m, upd σ.H ca (.cell (er v))⟩) : Tr C (storeName env x v) σ Ψ := fun s S => by
  obtain ⟨m', dd, F, e, R, D⟩ := id S.ex
  obtain ⟨hb, hcL, hO⟩ := R.own _ _ (orF_l hv)
  have hcell : ∃ ob v₀, s.heap.get? ca = some ob ∧ ob.data = .cell v₀ := by
    rcases ho with rfl | ⟨v₀, rfl⟩
    · obtain ⟨ob, h1, h2⟩ := hO; exact ⟨ob, _, h1, h2⟩
    · obtain ⟨ob, _, h1, h2, _⟩ := hO; exact ⟨ob, _, h1, h2⟩
  obtain ⟨ob, v₀, h1, h2⟩ := hcell
  refine wpAny_storeName_cell hk hl hc ⟨ob, h1, h2⟩ fun h' hv' hs => ?_
  obtain ⟨o', ho', hd'⟩ := hv'
  refine ⟨⟨σ.m, upd σ.H ca (.cell (er v))⟩, h', _, rfl, ⟨m', dd, ⟨F.ns.sameBut hs (Ne.symm hcL), fun y ob' q => (hs.2 y (fun z => ?_)).trans (F.keep y ob' q), F.above⟩, e, upd_orF ▸ ?_, D.upd (D.at hv)⟩, h⟩
  · rw [z, hb] at q; cases q
  · refine R.set (orF_l hv) ?_ (fun _ _ => by simp) (fun y ob' hy _ q => (hs.2 y hy).trans q) ⟨o', v, ho', hd', rfl⟩
    rcases ho with rfl | ⟨v₀, rfl⟩ <;> simp
theorem Ex.assign {x : Str} {px : Pos} (hs : swapsWith value (some (.Name x px)) pos.line env = pure false) (hk : env.scope.kind = .function) (hl : env.kindOf x = some .local) (hL : env.locals = C.L)
    (h : Ev C env value σ fun v σ₁ => Φ .next ⟨putM σ₁.m x v, σ₁.H⟩) : Ex C env (.Assign [.Name x px] value pos) σ Φ := fun s S =>
  wpAny_Assign_Name (Tr.run h S fun v σ₁ h₁ k₁ S₁ p₁ => Tr.run (tr_store (v := v) hk hl hL p₁) S₁ fun _ σ₂ h₂ k₂ S₂ p₂ => ⟨σ₂, h₂, k₂, rfl, S₂, p₂⟩) hs
end
end Mine
end
section
set_option maxRecDepth 100000
set_option Elab.async false
set_option linter.unusedVariables false
namespace Mine
open PySem PySem.W PySem.Calls PyProof.Rows

structure OkA (A : Around) (n : Nat) : Prop where
  hd : A.handled = none
  dep : A.depth + n < recursionLimit
  un : A.units + 10 * n < cLine
theorem OkA.le {A : Around} {n k : Nat} (h : OkA A n) (l : k ≤ n) : OkA A k := ⟨h.hd, by have := h.dep; omega, by have := h.un; omega⟩
theorem OkA.deeper {A : Around} {n : Nat} (h : OkA A (n + 1)) (env : Env) : OkA (A.deeper env) n := ⟨h.hd, by have := h.dep; show A.depth + 1 + n < _; omega, by have := h.un; show A.units + 3 + 10 * n < _; omega⟩
theorem OkA.in1 {A : Around} {n : Nat} (h : OkA A (n + 1)) : OkA A.in1 n := ⟨h.hd, by have := h.dep; show A.depth + n < _; omega, by have := h.un; show A.units + 1 + 10 * n < _; omega⟩
theorem OkA.make {A : Around} {n : Nat} {Cl : Addr} {vs : List Value} {kw : List (Str × Value)} (h : OkA A (n + 1)) : OkA (A.under (.builtin "type.__call__" ⟨.ref Cl :: vs, kw⟩)) n := ⟨h.hd, by have := h.dep; show A.depth + 1 + n < _; omega, by have := h.un; show A.units + 1 + 10 * n < _; omega⟩
theorem OkA.room {A : Around} {n : Nat} (h : OkA A n) : A.depth < recursionLimit := by have := h.dep; omega
theorem OkA.units {A : Around} {n : Nat} (h : OkA A n) : A.units < cLine := by have := h.un; omega

/-! Into a frame and out of it. -/
def ground (b : Heap) (L : Addr) (h : Heap) : Heap := hideAll h ((full b L h).map (·.1))
theorem ground_of {b h : Heap} {L x : Addr} {o : Obj} (e : (ground b L h).get? x = some o) : h.get? x = some o := of_hideAll _ e
theorem ground_size (b : Heap) (L : Addr) (h : Heap) : (ground b L h).objs.size = h.objs.size := hideAll_size _ _
theorem ground_base {b h : Heap} {L x : Addr} {o : Obj} {m : Str → Option Value} (F : Fr b L h m) (e : b.get? x = some o) : (ground b L h).get? x = some o := by
  refine hideAll_get _ (F.keep _ _ e) fun q => ?_
  obtain ⟨⟨a, ob⟩, hp, rfl⟩ := List.mem_map.mp q
  rw [(mem_full.mp hp).2.2] at e; cases e
theorem ground_L {b h : Heap} {L : Addr} {o : Obj} (e : h.get? L = some o) : (ground b L h).get? L = some o := by
  refine hideAll_get _ e fun q => ?_
  obtain ⟨⟨a, ob⟩, hp, hq⟩ := List.mem_map.mp q
  exact (mem_full.mp hp).2.1 hq
theorem ground_none {b h : Heap} {L x : Addr} {o : Obj} (e : h.get? x = some o) (hL : x ≠ L) (hb : b.get? x = none) : (ground b L h).get? x = none :=
  hideAll_none _ (List.mem_map.mpr ⟨(x, o), mem_full.mpr ⟨e, hL, hb⟩, rfl⟩)

theorem Rep.enter {b h h₁ : Heap} {L L' : Addr} {dd : Addr → Addr} {H : AH} (R : Rep b L h dd H) (hL : h.objs.size ≤ L') (k : ∀ x o, h.get? x = some o → h₁.get? x = some o) : Rep (ground b L h) L' h₁ dd H := by
  have hne : ∀ x o, h.get? x = some o → x ≠ L' := fun x o q z => by have := Heap.lt_size q; subst z; exact absurd (Nat.lt_of_lt_of_le this hL) (Nat.lt_irrefl _)
  refine ⟨fun a o q => ?_, fun a C fs q => ?_, R.inj⟩
  · obtain ⟨h1, h2, h3⟩ := R.own a o q
    obtain ⟨ob, hob⟩ := h3.there
    exact ⟨ground_none hob h2 h1, hne _ _ hob, h3.mono (fun x => k _ x) fun C fs z => ⟨rfl, fun x => k _ x⟩⟩
  · obtain ⟨h1, h2, h3⟩ := R.ddo a C fs q
    obtain ⟨_, es, n, hob, _⟩ := (R.own _ _ q).2.2
    exact ⟨ground_none hob h2 h1, hne _ _ hob, h3⟩
theorem Sat.enter {b h h₁ : Heap} {L L' : Addr} {F : AH} {σ : St} {m₁ : Str → Option Value} (S : Sat b L F h σ) (hL : h.objs.size ≤ L') (k : ∀ x o, h.get? x = some o → h₁.get? x = some o) (hn : h₁.Ns L' m₁) :
    Sat (ground b L h) L' F h₁ ⟨fun x => (m₁ x).map er, σ.H⟩ := by
  obtain ⟨m', dd, Fm, e, R, D⟩ := S.ex
  exact ⟨m₁, dd, ⟨hn, fun x o q => k x o (ground_of q), by rw [ground_size]; exact hL⟩, fun _ => rfl, R.enter hL k, D⟩
theorem leave_of {b h h₂ : Heap} {L L' : Addr} {F : AH} {σ : St} {H' : AH} {dd₂ : Addr → Addr} (S : Sat b L F h σ) (kp : ∀ x o, (ground b L h).get? x = some o → h₂.get? x = some o) (R₂ : Rep (ground b L h) L' h₂ dd₂ (orF H' F)) (D₂ : Disj H' F) : Sat b L F h₂ ⟨σ.m, H'⟩ := by
  obtain ⟨m', dd, Fm, e, R, D⟩ := S.ex
  obtain ⟨oL, es, ep, hL, hLd, hLk, hLf⟩ := Fm.ns
  have hb : ∀ x, (ground b L h).get? x = none → b.get? x = none ∧ x ≠ L := fun x q => by
    constructor
    · cases z : b.get? x with
      | none => rfl
      | some o => rw [ground_base Fm z] at q; cases q
    · intro z; subst z; rw [ground_L hL] at q; cases q
  refine ⟨m', dd₂, ⟨⟨oL, es, ep, kp L oL (ground_L hL), hLd, hLk, hLf⟩, fun x o q => kp x o (ground_base Fm q), Fm.above⟩, e, ⟨fun a o q => ?_, fun a C fs q => ?_, R₂.inj⟩, D₂⟩
  · obtain ⟨h1, h2, h3⟩ := R₂.own a o q
    exact ⟨(hb a h1).1, (hb a h1).2, h3⟩
  · obtain ⟨h1, h2, h3⟩ := R₂.ddo a C fs q
    exact ⟨(hb _ h1).1, (hb _ h1).2, h3⟩
theorem Sat.leave {b h h₂ : Heap} {L L' : Addr} {F : AH} {σ σ' : St} (S : Sat b L F h σ) (S' : Sat (ground b L h) L' F h₂ σ') : Sat b L F h₂ ⟨σ.m, σ'.H⟩ := by
  obtain ⟨m₂, dd₂, F₂, e₂, R₂, D₂⟩ := S'.ex
  exact leave_of S F₂.keep R₂ D₂
/-- The inner block's own names have changed once more. -/
theorem Sat.leave' {b h h₂ h₃ : Heap} {L L' : Addr} {F : AH} {σ σ' : St} (S : Sat b L F h σ) (S' : Sat (ground b L h) L' F h₂ σ') (hs : Heap.SameBut L' h₂ h₃) : Sat b L F h₃ ⟨σ.m, σ'.H⟩ := by
  obtain ⟨m₂, dd₂, F₂, e₂, R₂, D₂⟩ := S'.ex
  exact leave_of (L' := L') S (fun x o q => (hs.2 x (Nat.ne_of_lt (Nat.lt_of_lt_of_le (Heap.lt_size q) F₂.above))).trans (F₂.keep x o q)) (R₂.same fun x o hx q => (hs.2 x hx).trans q) D₂
theorem Sat.base {b h : Heap} {L : Addr} {F : AH} {σ : St} (S : Sat b L F h σ) {x : Addr} {o : Obj} (e : b.get? x = some o) : (ground b L h).get? x = some o := by
  obtain ⟨m', dd, Fm, _, R, _⟩ := S.ex
  exact ground_base Fm e
theorem Sat.keep {b h : Heap} {L : Addr} {F : AH} {σ : St} (S : Sat b L F h σ) {x : Addr} {o : Obj} (e : b.get? x = some o) : h.get? x = some o := by
  obtain ⟨m', dd, Fm, _, R, _⟩ := S.ex
  exact Fm.keep _ _ e

/-! Arguments and displays -/
def As (C : Cx) (env : Env) (pos : Pos) (es : List Expr) (σ : St) (Φ : List Value → St → Prop) : Prop := Tr C (spliced (backTo pos (starEach es env))) σ fun vs σ' => Φ (vs.map er) σ'
section
variable {C : Cx} {env : Env} {e func o : Expr} {σ : St} {pos apos : Pos} {es args : List Expr} {Φ : Value → St → Prop}
theorem As.nil {Φ : List Value → St → Prop} (h : Φ [] σ) : As C env pos [] σ Φ := fun s S => wpAny_items_nil ⟨σ, s.heap, s.toks, rfl, S, h⟩
theorem As.cons {Φ : List Value → St → Prop} (h : Ev C env e σ fun v σ₁ => As C env pos es σ₁ fun vs σ₂ => Φ (v :: vs) σ₂) (he : starEach (e :: es) env = (false, eval e env) :: starEach es env := by rfl) : As C env pos (e :: es) σ Φ := fun s S =>
  wpAny_items_cons (Tr.run h S fun v σ₁ h₁ k₁ S₁ p₁ => Tr.run p₁ S₁ fun vs σ₂ h₂ k₂ S₂ p₂ => ⟨σ₂, h₂, k₂, rfl, S₂, p₂⟩) he
theorem tup_push {vs : List Value} {h : Heap} {dd : Addr → Addr} : ObjIs (h.push { cls := .type "tuple", data := .seq vs.toArray }) dd h.objs.size (.tup (vs.map er)) := ⟨vs, 0, Heap.get?_push_size _ rfl, rfl⟩
theorem list_push {vs : List Value} {h : Heap} {dd : Addr → Addr} : ObjIs (h.push { cls := .type "list", data := .seq vs.toArray }) dd h.objs.size (.list (vs.map er)) := ⟨vs, 0, Heap.get?_push_size _ rfl, rfl⟩
theorem Ev.tuple {k : Nat} (h : As C env pos es σ fun vs σ₁ => vs.length ≤ sizeLine ∧ ∀ a, σ₁.H a = none → Φ (.ref a) ⟨σ₁.m, upd σ₁.H a (.tup vs)⟩) : Ev C env (.Tuple es k pos) σ Φ := fun s S =>
  wpAny_Tuple (Tr.run h S fun vs σ₁ h₁ k₁ S₁ p₁ => ⟨by simpa using p₁.1, by
    obtain ⟨S₂, hn⟩ := S₁.push (ob := { cls := .type "tuple", data := .seq vs.toArray }) rfl (fun _ _ => by simp) fun dd => tup_push
    exact ⟨_, _, _, rfl, S₂, p₁.2 _ hn⟩⟩)
theorem Ev.list (h : As C env pos es σ fun vs σ₁ => vs.length ≤ sizeLine ∧ ∀ a, σ₁.H a = none → Φ (.ref a) ⟨σ₁.m, upd σ₁.H a (.list vs)⟩) : Ev C env (.List es pos) σ Φ := fun s S =>
  wpAny_List (Tr.run h S fun vs σ₁ h₁ k₁ S₁ p₁ => ⟨by simpa using p₁.1, by
    obtain ⟨S₂, hn⟩ := S₁.push (ob := { cls := .type "list", data := .seq vs.toArray }) rfl (fun _ _ => by simp) fun dd => list_push
    exact ⟨_, _, _, rfl, S₂, p₁.2 _ hn⟩⟩)

/-! Calls -/
def CallTo (C : Cx) (f : Value) (vs : List Value) (σ : St) (Φ : Value → St → Prop) : Prop := ∀ vs' : List Value, vs'.map er = vs → Tr C (call f vs' []) σ fun v σ' => Φ (er v) σ'
theorem CallTo.mono {f : Value} {vs : List Value} {Ψ : Value → St → Prop} (h : CallTo C f vs σ Φ) (k : ∀ a σ', Φ a σ' → Ψ a σ') : CallTo C f vs σ Ψ := fun vs' e => Tr.mono (h vs' e) fun _ _ p => k _ _ p
variable {K : Frag} {p : Program} {loose : List Str}
def Keepable (K : Frag) (f : Value) : Prop := (∃ id, f = .builtin id) ∨ (∃ n, f = .type n) ∨ keepIn K f = true
theorem keeps_of {f : Value} (hf : Keepable K f) (M : Model) (h : Heap) (X : K.In h) : ∃ k, (k = Keeper.frame ∨ k = Keeper.machine ∨ k = Keeper.boundFrame) ∧ Looks M h (keeperOf f) k := by
  rcases hf with ⟨id, rfl⟩ | ⟨n, rfl⟩ | hk
  · exact ⟨.machine, .inr (.inl rfl), Looks.of_pure rfl⟩
  · exact ⟨.machine, .inr (.inl rfl), Looks.of_pure rfl⟩
  · exact keeps_K hk h X
theorem evalArgs_all {M : Model} {A : Around} {E : Value → Shared → Prop} {s : Shared} {f : Value} {args : List (Bool × Sem Value)} {Q : Args → Shared → Prop} (ha : args.any (·.1) = false)
    (h : wpAny M A (spliced args) (fun vs s' => Q ⟨vs, []⟩ s') E s) : wpAny M A (evalArgs f true args []) Q E s := by
  cases args with
  | nil =>
    unfold evalArgs
    show wpAny M A (spliced [] >>= _) Q E s
    refine wpAny_bind (wpAny_mono h (fun vs s' h' => ?_) fun _ _ x => x)
    refine wpAny_bind (wpAny_pure (wpAny_holding ?_))
    exact wpAny_bind (wpAny_pure (wpAny_bind (wpAny_pure (wpAny_pure h'))))
  | cons x r =>
    obtain ⟨b, t⟩ := x
    have hb : b = false := by cases b with | false => rfl | true => simp at ha
    subst hb
    exact evalArgs_plain h
theorem tr_callWith (G : Ground0 K p loose C.b) {f : Value} {first : List Value} (hf : Keepable K f) (ha : (backTo pos (starEach args env)).any (·.1) = false) {pos' : Pos}
    (h : As C env pos args σ fun vs σ₁ => CallTo C f (first.map er ++ vs) σ₁ Φ) : Tr C (callWith pos' f first (backTo pos (starEach args env)) []) σ fun v σ' => Φ (er v) σ' := fun s S => by
  refine callWith_of (P := K.In) (by rw [ha]; rfl) (fun h X => keeps_of hf _ h X) (evalArgs_all ha ?_)
  refine Tr.run h S fun vs σ₁ h₁ k₁ S₁ p₁ => ⟨G.inK.keeps fun x o => S₁.keep, ?_⟩
  exact Tr.run (p₁ (first ++ vs) (by rw [List.map_append])) S₁ fun v σ₂ h₂ k₂ S₂ p₂ => ⟨σ₂, h₂, k₂, rfl, S₂, p₂⟩
theorem Keepable.er {f : Value} (h : Keepable K (er f)) : f = Mine.er f := by
  rcases h with ⟨id, q⟩ | ⟨n, q⟩ | q
  · rw [er_builtin q]; rfl
  · rw [er_type q]; rfl
  · cases f <;> first | rfl | simp [Mine.er, keepIn] at q
theorem Ev.call (G : Ground0 K p loose C.b) (h : Ev C env func σ fun f σ₁ => Keepable K f ∧ As C env pos args σ₁ fun vs σ₂ => CallTo C f vs σ₂ Φ)
    (ha : (backTo pos (starEach args env)).any (·.1) = false := by rfl)
    (he : eval (.Call func args [] pos) env = (do callWith pos (← eval func env) [] (backTo pos (starEach args env)) (backToKw pos (keywordEach [] env))) := by rfl) : Ev C env (.Call func args [] pos) σ Φ := fun s S =>
  Call_ (Tr.run h S fun f σ₁ h₁ k₁ S₁ ⟨hk, p₁⟩ => by
    have e := hk.er
    rw [e]
    exact Tr.run (tr_callWith G hk ha (first := []) p₁) S₁ fun v σ₂ h₂ k₂ S₂ p₂ => ⟨σ₂, h₂, k₂, rfl, S₂, p₂⟩) he

/-! Fields -/
theorem fields_get {name : Str} : ∀ {es : List DictEntry} {fs : List (Str × Value)}, FieldsAre es fs → (∀ v, fs.lookup name = some v → ∃ v', getL name es = some (some v') ∧ er v' = v) ∧ (fs.lookup name = none → getL name es = some none)
  | [], [], _ => ⟨fun _ h => (nomatch h), fun _ => rfl⟩
  | e :: es, f :: fs, ⟨⟨t, hk⟩, hv, hr⟩ => by
    obtain ⟨i1, i2⟩ := fields_get (name := name) hr
    have hks : e.key.isStr name = (f.1 == name) := by rw [hk]; rfl
    have hrk : e.refKey = false := by unfold DictEntry.refKey; rw [hk]
    have hnone : ∀ {es : List DictEntry} {fs : List (Str × Value)}, FieldsAre es fs → es.any (·.refKey) = false := by
      intro es
      induction es with
      | nil => intro _ _; rfl
      | cons e es ih =>
        intro fs h
        cases fs with
        | nil => exact h.elim
        | cons f fs =>
          obtain ⟨⟨t, hk⟩, _, hr⟩ := h
          have : e.refKey = false := by unfold DictEntry.refKey; rw [hk]
          simp [List.any_cons, this, ih hr]
    obtain ⟨fn, fv⟩ := f
    dsimp only at hks hv hk
    by_cases hn : fn = name
    · subst hn
      have hb : e.key.isStr fn = true := by rw [hks]; simp
      constructor
      · intro v hl
        simp only [List.lookup_cons, beq_self_eq_true] at hl
        cases hl
        exact ⟨e.val, by unfold getL; simp [List.find?_cons, hb], hv⟩
      · intro hl; simp [List.lookup_cons] at hl
    · have hb : e.key.isStr name = false := by rw [hks]; simpa using hn
      have hbe : (name == fn) = false := by simpa using fun q => hn q.symm
      have hget : getL name (e :: es) = getL name es := by
        unfold getL
        rw [List.find?_cons, hb]
        simp [List.any_cons, hrk]
      rw [hget]
      constructor
      · intro v hl
        rw [List.lookup_cons, hbe] at hl
        exact i1 v hl
      · intro hl
        rw [List.lookup_cons, hbe] at hl
        exact i2 hl
def fput (name : Str) (v : Value) : List (Str × Value) → List (Str × Value)
  | [] => [(name, v)]
  | f :: r => if f.1 == name then (f.1, v) :: r else f :: fput name v r
theorem fields_put {name : Str} {hsh : Int} {t : Tok} {v : Value} : ∀ {es : List DictEntry} {fs : List (Str × Value)}, FieldsAre es fs → FieldsAre (putL name hsh (.str name t) v es) (fput name (er v) fs) ∧ (putL name hsh (.str name t) v es).length ≤ es.length + 1
  | [], [], _ => ⟨⟨⟨t, rfl⟩, rfl, trivial⟩, Nat.le_refl _⟩
  | e :: es, f :: fs, ⟨⟨u, hk⟩, hv, hr⟩ => by
    obtain ⟨i1, i2⟩ := fields_put (name := name) (hsh := hsh) (t := t) (v := v) hr
    have hks : e.key.isStr name = (f.1 == name) := by rw [hk]; rfl
    simp only [putL, fput, ← hks]
    by_cases hb : e.key.isStr name = true
    · rw [if_pos hb, if_pos hb]
      exact ⟨⟨⟨u, hk⟩, rfl, hr⟩, Nat.le_succ _⟩
    · rw [if_neg hb, if_neg hb]
      exact ⟨⟨⟨u, hk⟩, hv, i1⟩, Nat.succ_le_succ i2⟩
theorem fields_len : ∀ {es : List DictEntry} {fs : List (Str × Value)}, FieldsAre es fs → es.length = fs.length
  | [], [], _ => rfl
  | _ :: _, _ :: _, ⟨_, _, h⟩ => by rw [List.length_cons, List.length_cons, fields_len h]
theorem fput_len {name : Str} {v : Value} : ∀ {fs : List (Str × Value)}, (fput name v fs).length ≤ fs.length + 1
  | [] => Nat.le_refl _
  | f :: r => by
    unfold fput
    split
    · exact Nat.le_succ _
    · exact Nat.succ_le_succ fput_len

structure GetOk (K : Frag) (Cl : Addr) (name : Str) : Prop where
  g : plainGet K Cl name = true
  h : hasDictIn K Cl = true
  a : (findIn K (.ref Cl) name).any (noGet K) = true
structure SetOk (K : Frag) (Cl : Addr) (name : Str) : Prop where
  s : findIn K (.ref Cl) "__setattr__" = some (some (.builtin "object.__setattr__"))
  p : plainOver K Cl = true
  t : takerIn K Cl name = some none
  h : hasDictIn K Cl = true
structure MethOk (K : Frag) (Cl : Addr) (name : Str) (f : Addr) : Prop where
  g : plainGet K Cl name = true
  fd : findIn K (.ref Cl) name = some (some (.ref f))
  i : isFn K (.ref f) = true
  k : keepIn K (.ref f) = true
theorem handedIn_er (v : Value) : handedIn (er v) = handedIn v := by cases v <;> rfl

theorem inst_at {b h : Heap} {L a Cl : Addr} {Fr : AH} {σ : St} {fs : List (Str × Value)} (S : Sat b L Fr h σ) (e : σ.H a = some (.inst Cl fs)) : ∃ dx es n, InstAt h a (instObj Cl dx) Cl (some (dictOf es n)) ∧ FieldsAre es fs ∧ h.get? dx = some (dictOf es n) := by
  obtain ⟨dd, h1, es, n, h2, h3⟩ := S.obj e
  exact ⟨dd a, es, n, ⟨h1, rfl, rfl, h2⟩, h3, h2⟩
theorem tr_getAttr (G : Ground0 K p loose C.b) {a Cl : Addr} {fs : List (Str × Value)} {name : Str} {v : Value} {expr : Bool} (e : σ.H a = some (.inst Cl fs)) (ok : GetOk K Cl name) (hl : fs.lookup name = some v) (hh : handedIn v = true) (h : Φ v σ) :
    Tr C (getAttr (.ref a) name expr) σ fun v σ' => Φ (er v) σ' := fun s S => by
  obtain ⟨m', dd, F, _, R, D⟩ := id S.ex
  obtain ⟨dx, es, n, I, hf, _⟩ := inst_at S e
  obtain ⟨v', hg, hv⟩ := (fields_get hf).1 v hl
  obtain ⟨attr, ha, hn⟩ : ∃ attr, findIn K (.ref Cl) name = some attr ∧ noGet K attr = true := by
    have := ok.a
    cases q : findIn K (.ref Cl) name with
    | none => rw [q] at this; cases this
    | some x => rw [q] at this; exact ⟨x, rfl, this⟩
  exact get_own F G.inK I ok.g ok.h ha hn hg (by rw [← handedIn_er, hv]; exact hh) ⟨σ, s.heap, _, rfl, S, by dsimp only; rw [hv]; exact h⟩
theorem Ev.attr (G : Ground0 K p loose C.b) {name : Str} (h : Ev C env e σ fun ov σ₁ => ∃ a Cl fs v, ov = .ref a ∧ σ₁.H a = some (.inst Cl fs) ∧ GetOk K Cl name ∧ fs.lookup name = some v ∧ handedIn v = true ∧ Φ v σ₁)
    (he : eval (.Attribute e name pos) env = (do
      let o ← eval e env
      standAt pos.atName
      let r ← holding [o] (getAttr o name true)
      letTemporaryGo e o r
      pure r) := by with_unfolding_all rfl) : Ev C env (.Attribute e name pos) σ Φ := fun s S =>
  Attribute_any_ (Tr.run h S fun ov σ₁ h₁ k₁ S₁ ⟨a, Cl, fs, v, q, e₁, ok, hl, hh, p₁⟩ => by
    rw [er_ref q]
    exact Tr.run (tr_getAttr G e₁ ok hl hh p₁) S₁ fun v σ₂ h₂ k₂ S₂ p₂ => ⟨σ₂, h₂, k₂, rfl, S₂, p₂⟩) he
theorem Pe.attr (G : Ground0 K p loose C.b) {name : Str} {a Cl : Addr} {fs : List (Str × Value)} {v : Value} (h : Pe C env e σ (.ref a)) (hH : σ.H a = some (.inst Cl fs)) (ok : GetOk K Cl name) (hl : fs.lookup name = some v) (hh : handedIn v = true)
    (he : eval (.Attribute e name pos) env = (do
      let o ← eval e env
      standAt pos.atName
      let r ← holding [o] (getAttr o name true)
      letTemporaryGo e o r
      pure r) := by with_unfolding_all rfl) : Pe C env (.Attribute e name pos) σ v :=
  Ev.attr G (h.ev ⟨a, Cl, fs, v, rfl, hH, ok, hl, hh, rfl, rfl⟩) he
theorem Ev.meth (G : Ground0 K p loose C.b) {name : Str} {pl : Sem Bool} (h : Ev C env o σ fun ov σ₁ => ∃ a Cl fs f, ov = .ref a ∧ σ₁.H a = some (.inst Cl fs) ∧ MethOk K Cl name f ∧ fs.lookup name = none ∧
      As C env pos args σ₁ fun vs σ₂ => CallTo C (.ref f) (.ref a :: vs) σ₂ Φ)
    (ha : (backTo pos (starEach args env)).any (·.1) = false := by rfl)
    (he : eval (.Call (.Attribute o name apos) args [] pos) env = (do
      let ov ← eval o env
      standAt apos.atName
      let (f, first) ← holding [ov] (getMethod ov name pl)
      callWith pos f first (backTo pos (starEach args env)) (backToKw pos (keywordEach [] env))) := by rfl) : Ev C env (.Call (.Attribute o name apos) args [] pos) σ Φ := fun s S => by
  refine methodCall_KW (pl := pl) (Tr.run h S fun ov σ₁ h₁ k₁ S₁ ⟨a, Cl, fs, f, q, e₁, ok, hl, p₁⟩ => ?_) he
  rw [er_ref q]
  obtain ⟨m', dd, F, _, R, D⟩ := id S₁.ex
  obtain ⟨dx, es, n, I, hf, _⟩ := inst_at S₁ e₁
  refine method_inst F G.inK I ok.g ok.fd ok.i ((fields_get hf).2 hl) ?_
  exact Tr.run (tr_callWith G (.inr (.inr ok.k)) ha (first := [.ref a]) p₁) S₁ fun v σ₂ h₂ k₂ S₂ p₂ => ⟨σ₂, h₂, k₂, rfl, S₂, p₂⟩
/-- a method of a list -/
theorem Ev.lmeth (G : Ground0 K p loose C.b) {name : Str} {pl : Sem Bool} {id : String} (slot : Slot "list" name id) (hty : typeOf (.builtin id) = pure (.type "method_descriptor"))
    (h : Ev C env o σ fun ov σ₁ => ∃ a vs, ov = .ref a ∧ σ₁.H a = some (.list vs) ∧ As C env pos args σ₁ fun vs σ₂ => CallTo C (.builtin id) (.ref a :: vs) σ₂ Φ)
    (ha : (backTo pos (starEach args env)).any (·.1) = false := by rfl)
    (he : eval (.Call (.Attribute o name apos) args [] pos) env = (do
      let ov ← eval o env
      standAt apos.atName
      let (f, first) ← holding [ov] (getMethod ov name pl)
      callWith pos f first (backTo pos (starEach args env)) (backToKw pos (keywordEach [] env))) := by rfl) : Ev C env (.Call (.Attribute o name apos) args [] pos) σ Φ := fun s S => by
  refine methodCall_KW (pl := pl) (Tr.run h S fun ov σ₁ h₁ k₁ S₁ ⟨a, vs, q, e₁, p₁⟩ => ?_) he
  rw [er_ref q]
  obtain ⟨dd, vs', n, hg, _⟩ := S₁.obj e₁
  refine getMethod_builtin ⟨_, hg, rfl⟩ PySem.F.plainAttrs_list slot hty (fun a e => by cases e; exact ⟨_, hg, rfl⟩) ?_
  exact Tr.run (tr_callWith G (.inl ⟨_, rfl⟩) ha (first := [.ref a]) p₁) S₁ fun v σ₂ h₂ k₂ S₂ p₂ => ⟨σ₂, h₂, k₂, rfl, S₂, p₂⟩

/-! A field is stored -/
theorem tr_setAttr (G : Ground0 K p loose C.b) {a Cl : Addr} {fs : List (Str × Value)} {name : Str} {v : Value} {Ψ : Unit → St → Prop} (e : σ.H a = some (.inst Cl fs)) (ok : SetOk K Cl name) (hn : fs.length ≤ 900)
    (h : Ψ () ⟨σ.m, upd σ.H a (.inst Cl (fput name (er v) fs))⟩) : Tr C (setAttr (.ref a) name v) σ Ψ := fun s S => by
  obtain ⟨m', dd, F, em, R, D⟩ := S.ex
  obtain ⟨h1, es, n, h2, h3⟩ := (R.own _ _ (orF_l e)).2.2
  have I : InstAt s.heap a (instObj Cl (dd a)) Cl (some (dictOf es n)) := ⟨h1, rfl, rfl, h2⟩
  obtain ⟨hb, hL, _⟩ := R.ddo _ _ _ (orF_l e)
  obtain ⟨p1, p2⟩ := fields_put (name := name) (hsh := PyData.keyHash C.w.params name) (t := s.toks + 1) (v := v) h3
  obtain ⟨news', U, hm, hk⟩ := upd_of (o' := dictOf (putL name (PyData.keyHash C.w.params name) (.str name (s.toks + 1)) v es) (putN name es n)) (full_nodup C.b C.L s.heap) (mem_full.mpr ⟨h2, hL, hb⟩)
  have hl : (getL name es).isSome = true := by
    cases q : fs.lookup name with
    | none => rw [(fields_get h3).2 q]; rfl
    | some v => obtain ⟨v', q', _⟩ := (fields_get h3).1 v q; rw [q']; rfl
  have hz : (putL name (PyData.keyHash C.w.params name) (.str name (s.toks + 1)) v es).length ≤ 1000 := by have := fields_len h3; omega
  refine set_dict F G.inK (full_news _ _ _) I rfl ok.s ok.p ok.t ok.h hl rfl U hz fun h' F' N' => ?_
  refine ⟨⟨σ.m, upd σ.H a (.inst Cl (fput name (er v) fs))⟩, h', _, rfl, ⟨m', dd, F', em, upd_orF ▸ R.setI (orF_l e) ?_ (N' _ hm).1 p1, D.upd (D.at e)⟩, h⟩
  refine fun x ob hx hxL q => stays_full (P := fun y => y = dd a) F F' N' (fun p hp hne => hk p hp hne) (fun y hy => hy ▸ hb) x ob hx hxL q
theorem Ex.setattr (G : Ground0 K p loose C.b) {name : Str} {ob value : Expr} {Φ : Flow → St → Prop} (hs : swapsWith value (some (.Attribute ob name apos)) pos.line env = pure false)
    (h : Ev C env value σ fun v σ₁ => Ev C env ob σ₁ fun ov σ₂ => ∃ a Cl fs, ov = .ref a ∧ σ₂.H a = some (.inst Cl fs) ∧ SetOk K Cl name ∧ fs.length ≤ 900 ∧ Φ .next ⟨σ₂.m, upd σ₂.H a (.inst Cl (fput name v fs))⟩) :
    Ex C env (.Assign [.Attribute ob name apos] value pos) σ Φ := fun s S =>
  plainObj_wpAny_Assign_Attribute (Tr.run h S fun v σ₁ h₁ k₁ S₁ p₁ => Tr.run p₁ S₁ fun ov σ₂ h₂ k₂ S₂ ⟨a, Cl, fs, q, e₂, ok, hn, p₂⟩ => by
    rw [er_ref q]
    exact Tr.run (tr_setAttr G (v := v) (Ψ := fun _ σ' => Φ .next σ') e₂ ok hn p₂) S₂ fun _ σ₃ h₃ k₃ S₃ p₃ => ⟨σ₃, h₃, k₃, rfl, S₃, p₃⟩) hs
end
end Mine
end
section
set_option maxRecDepth 100000
set_option Elab.async false
set_option linter.unusedVariables false
namespace Mine
open PySem PySem.W PySem.Calls PyProof.Rows

def cellAO : Option Value → AO
  | none => .hole
  | some v => .cell (er v)
theorem cellAO_ne (v : Option Value) : ∀ C fs, cellAO v ≠ .inst C fs := fun C fs => by cases v <;> simp [cellAO]

/-- Cells laid onto a heap that already holds them. -/
theorem Rep.addCells {b h : Heap} {L : Addr} {dd : Addr → Addr} {f : Str → Option Value} : ∀ (cl : List (Str × Addr)) {H : AH}, Rep b L h dd H → (cl.map (·.2)).Nodup → (∀ n c, (n, c) ∈ cl → b.get? c = none ∧ c ≠ L ∧ H c = none ∧ h.IsCell c (f n) ∧ ∀ x C fs, H x = some (.inst C fs) → dd x ≠ c) →
    ∃ H', Rep b L h dd H' ∧ Same H H' ∧ (∀ n c, (n, c) ∈ cl → H' c = some (cellAO (f n))) ∧ ∀ x, H x = none → (∀ n c, (n, c) ∈ cl → x ≠ c) → H' x = none
  | [], H, R, _, _ => ⟨H, R, Keep.refl, (fun _ _ h => nomatch h), fun _ h _ => h⟩
  | (n, c) :: r, H, R, hn, hc => by
    obtain ⟨h1, h2⟩ := List.nodup_cons.mp hn
    obtain ⟨c1, c2, c3, c4, c5⟩ := hc n c (.head _)
    have R₁ : Rep b L h dd (upd H c (cellAO (f n))) := by
      obtain ⟨o, ho, hd⟩ := c4
      have hO : ObjIs h dd c (cellAO (f n)) := by
        cases q : f n with
        | none => rw [q] at hd; exact ⟨o, ho, hd⟩
        | some v => rw [q] at hd; exact ⟨o, v, ho, hd, rfl⟩
      refine ⟨fun x ox q => ?_, fun x C fs q => ?_, fun x y C fs C' fs' q q' z => ?_⟩
      · by_cases hx : x = c
        · subst hx; rw [upd_self] at q; cases q; exact ⟨c1, c2, hO⟩
        · rw [upd_ne hx] at q; exact R.own _ _ q
      · by_cases hx : x = c
        · subst hx; rw [upd_self] at q; exact absurd (Option.some.inj q) (cellAO_ne _ _ _)
        · rw [upd_ne hx] at q
          refine ⟨(R.ddo _ _ _ q).1, (R.ddo _ _ _ q).2.1, ?_⟩
          rw [upd_ne (c5 x _ _ q)]; exact (R.ddo _ _ _ q).2.2
      · have hx : x ≠ c := fun h => by subst h; rw [upd_self] at q; exact absurd (Option.some.inj q) (cellAO_ne _ _ _)
        have hy : y ≠ c := fun h => by subst h; rw [upd_self] at q'; exact absurd (Option.some.inj q') (cellAO_ne _ _ _)
        rw [upd_ne hx] at q; rw [upd_ne hy] at q'
        exact R.inj x y C fs C' fs' q q' z
    have hne : ∀ n' c', (n', c') ∈ r → c' ≠ c := fun n' c' hm e => h1 (List.mem_map.mpr ⟨(n', c'), hm, e⟩)
    obtain ⟨H', R', k, hc', hx'⟩ := Rep.addCells r R₁ h2 fun n' c' hm => by
      obtain ⟨d1, d2, d3, d4, d5⟩ := hc n' c' (.tail _ hm)
      refine ⟨d1, d2, by rw [upd_ne (hne _ _ hm)]; exact d3, d4, fun x C fs q => ?_⟩
      by_cases hx : x = c
      · subst hx; rw [upd_self] at q; exact absurd (Option.some.inj q) (cellAO_ne _ _ _)
      · rw [upd_ne hx] at q; exact d5 x C fs q
    refine ⟨H', R', (Keep.new c3).trans k, fun n' c' hm => ?_, fun x hx hxc => hx' x (by rw [upd_ne (hxc n c (.head _))]; exact hx) fun n' c' hm => hxc n' c' (.tail _ hm)⟩
    rcases List.mem_cons.mp hm with e | hm
    · cases e; exact k.at (upd_self _ _ _)
    · exact hc' _ _ hm

def CodeTo (C : Cx) (f : Value) (vs : List Value) (σ : St) (Φ : Value → St → Prop) : Prop := ∀ vs' : List Value, vs'.map er = vs → ∀ s : Shared, Sat C.b C.L C.F s.heap σ →
  codeAny (model C.prog C.w) C.A (.call f ⟨vs', []⟩) (fun r s' => ∃ v σ' h tk, r = .ok (.ret v) ∧ s' = { s with heap := h, toks := tk } ∧ Sat C.b C.L C.F h σ' ∧ Φ (er v) σ') s
section
variable {C : Cx} {f : Value} {vs : List Value} {σ : St} {Φ Ψ : Value → St → Prop} {K : Frag} {p : Program} {loose : List Str}
theorem CodeTo.call (h : CodeTo C f vs σ Φ) : CallTo C f vs σ Φ := fun vs' e s S => wpAny_call (codeAny_mono (h vs' e s S) fun r s' ⟨v, σ', h', tk, q, q', S', p⟩ => by subst q; exact ⟨σ', h', tk, q', S', p⟩)
theorem CodeTo.mono (h : CodeTo C f vs σ Φ) (k : ∀ a σ', Φ a σ' → Ψ a σ') : CodeTo C f vs σ Ψ := fun vs' e s S => codeAny_mono (h vs' e s S) fun r s' ⟨v, σ', h', tk, q, q', S', p⟩ => ⟨v, σ', h', tk, q, q', S', k _ _ p⟩
def retv : Flow → Value
  | .ret v => v
  | _ => .none
def Cx.call (C : Cx) (env : Env) (b : Heap) (L : Addr) : Cx := { C with A := C.A.deeper env, b := b, L := L }

/-- A def of the text is called. -/
theorem CodeTo.def (G : Ground0 K p loose C.b) {n : Nat} (ok : OkA C.A (n + 1)) {fa : Addr} {oc : Value} {od : Option Addr} {osl : Array (Option Value)} {fd : FuncData} {body : List Stmt} {abinds : List (Str × Value)}
    (ho : K.lookup fa = some ⟨oc, od, .func fd, osl⟩) (hcd : codeIn K fd.code fd.qualname = true) (hbody : fd.body = .stmts body)
    (hbind : ∀ vs' : List Value, vs'.map er = vs → ∀ s : Shared, K.In s.heap → ∃ binds, BindsTo s fd ⟨vs', []⟩ binds ∧ binds.map (fun y => (y.1, er y.2)) = abinds ∧ ∀ y ∈ binds, fd.scope.names.lookup y.1 = some .local)
    (hcell : ∀ x ∈ fd.scope.names, x.2 ≠ .cell)
    (h : ∀ b L, Ground0 K p loose b → OkA (C.A.deeper (callEnv fd L fa)) n → Exs (C.call (callEnv fd L fa) b L) (callEnv fd L fa) body ⟨fun x => abinds.reverse.lookup x, σ.H⟩ fun fl σ' => Φ (retv fl) ⟨σ.m, σ'.H⟩)
    (hco : fd.scope.isCoroutine = false := by rfl) (hgen : fd.scope.isGenerator = false := by rfl) (hk : fd.scope.kind = .function := by rfl) : CodeTo C (.ref fa) vs σ Φ := fun vs' e s S => by
  have X : K.In s.heap := G.inK.keeps fun x o => S.keep
  obtain ⟨mg, mb, T⟩ := G.top
  obtain ⟨binds, hb, hab, hloc⟩ := hbind vs' e s X
  refine codeAny_call_def (fd := fd) (body := body) (binds := binds) ok.room (X _ _ ho) rfl (T.nolimit.keeps fun x o => S.keep) (codeRec_of X hcd) hbody hb hcell hloc (fun h₁ hns hk₁ => ?_) hco hgen hk
  have S₁ : Sat (ground C.b C.L s.heap) s.heap.objs.size C.F h₁ ⟨fun x => abinds.reverse.lookup x, σ.H⟩ := by
    have := S.enter (Nat.le_refl _) hk₁ hns
    have hm : (fun x => (binds.reverse.lookup x).map er) = fun x => abinds.reverse.lookup x := by
      funext x
      rw [← hab, ← List.map_reverse]
      generalize binds.reverse = l
      induction l with
      | nil => rfl
      | cons y r ih =>
        obtain ⟨y1, y2⟩ := y
        simp only [List.map_cons, List.lookup_cons]
        cases hxy : x == y1 with
        | true => rfl
        | false => exact ih
    rw [hm] at this
    exact this
  have ok' : OkA (C.A.deeper (callEnv fd s.heap.objs.size fa)) n := ok.deeper _
  have B := h (ground C.b C.L s.heap) s.heap.objs.size (G.keeps fun x o => S.base) ok'
  refine wpAny_mono (B { s with heap := h₁, toks := s.toks + binds.length } S₁) (fun fl s' ⟨σ', h', tk, q, S', p'⟩ => ?_) fun _ _ x => x.elim
  have S₂ := S.leave S'
  cases fl <;> exact ⟨_, ⟨σ.m, σ'.H⟩, h', tk, rfl, q, S₂, p'⟩
/-- A def with cells. -/
theorem CodeTo.defC (G : Ground0 K p loose C.b) {n : Nat} (ok : OkA C.A (n + 1)) {fa : Addr} {oc : Value} {od : Option Addr} {osl : Array (Option Value)} {name qual : Str} {params : Arguments} {scope : Scope} {dV kV doc pm cdv ct : Value} {an : Option Addr} {body : List Stmt} {m₀ c₀ : Str → Option Value}
    (ho : K.lookup fa = some ⟨oc, od, .func (fnX name qual params body scope [] dV kV doc pm an cdv ct), osl⟩) (hcd : codeIn K cdv qual = true)
    (hbind : ∀ vs' : List Value, vs'.map er = vs → ∀ s : Shared, K.In s.heap → ∃ binds, BindsTo s (fnX name qual params body scope [] dV kV doc pm an cdv ct) ⟨vs', []⟩ binds ∧
      (binds.all fun y => scope.names.lookup y.1 == some .local || scope.names.lookup y.1 == some .cell) = true ∧
      ∀ L, (∀ x, (bindL (envX qual scope L fa cdv (cellsFrom (L + 1) scope.names [])).kindOf binds (fun _ => none) x).map er = m₀ x) ∧ ∀ x, (bindC (envX qual scope L fa cdv (cellsFrom (L + 1) scope.names [])).kindOf binds (fun _ => none) x).map er = c₀ x)
    (hnd : ((cellsFrom 0 scope.names []).map (·.1)).Nodup)
    (h : ∀ b L H₁, Ground0 K p loose b → OkA (C.A.deeper (envX qual scope L fa cdv (cellsFrom (L + 1) scope.names []))) n → Same σ.H H₁ → (∀ n c, (n, c) ∈ cellsFrom (L + 1) scope.names [] → σ.H c = none ∧ H₁ c = some (match c₀ n with | none => .hole | some v => .cell v)) →
      (∀ x, σ.H x = none → (∀ n c, (n, c) ∈ cellsFrom (L + 1) scope.names [] → x ≠ c) → H₁ x = none) →
      Exs (C.call (envX qual scope L fa cdv (cellsFrom (L + 1) scope.names [])) b L) (envX qual scope L fa cdv (cellsFrom (L + 1) scope.names [])) body ⟨m₀, H₁⟩ fun fl σ' => Φ (retv fl) ⟨σ.m, σ'.H⟩)
    (hco : scope.isCoroutine = false := by rfl) (hgen : scope.isGenerator = false := by rfl) (hk : scope.kind = .function := by rfl) : CodeTo C (.ref fa) vs σ Φ := fun vs' e s S => by
  have X : K.In s.heap := G.inK.keeps fun x o => S.keep
  obtain ⟨mg, mb, T⟩ := G.top
  obtain ⟨binds, hb, hall, hbi⟩ := hbind vs' e s X
  refine codeAny_call_function ok.room (X _ _ ho) rfl hco hgen rfl (codeRec_of X hcd) (hb _ _ _ _ ?_)
  refine wpAny_newFunctionEnv_cells hk (kindsX hall _) fun env' he s' x => ?_
  subst he
  obtain ⟨b1, b2⟩ := hbi s.heap.objs.size
  refine ⟨(T.nolimit.keeps fun x o => S.keep).keeps x.toInCall.keep, codeAny_func ?_⟩
  obtain ⟨h₁, tk, rfl, _⟩ := x.done
  have hk₁ := x.toInCall.keep
  obtain ⟨m', dd, F, em, R, D⟩ := id S.ex
  have hnd' : ((cellsFrom (s.heap.objs.size + 1) scope.names []).map (·.2)).Nodup := by
    have := x.apart
    rw [List.Nodup, List.pairwise_map]
    exact this
  have R₁ := R.enter (Nat.le_refl s.heap.objs.size) hk₁
  have inH : ∀ a o, orF σ.H C.F a = some o → a < s.heap.objs.size := fun a o q => let ⟨_, e⟩ := (R.own _ _ q).2.2.there; Heap.lt_size e
  obtain ⟨H₁, R₂, k₁, hc₁, hn₁⟩ := R₁.addCells (f := bindC (envX qual scope s.heap.objs.size fa cdv (cellsFrom (s.heap.objs.size + 1) scope.names [])).kindOf binds fun _ => none) _ hnd' fun n c hm => by
    have hab : s.heap.objs.size < c := x.above n c hm
    refine ⟨?_, Nat.ne_of_gt hab, ?_, x.cell n c (lookup_of_mem_nodup (cellsFrom_names scope.names 0 (s.heap.objs.size + 1) [] [] rfl ▸ hnd) hm), fun y Cl fs q z => ?_⟩
    · cases q : (ground C.b C.L s.heap).get? c with
      | none => rfl
      | some o => exact absurd (Nat.lt_trans hab (Heap.lt_size (ground_of q))) (Nat.lt_irrefl _)
    · cases q : orF σ.H C.F c with
      | none => rfl
      | some o => exact absurd (Nat.lt_trans hab (inH _ _ q)) (Nat.lt_irrefl _)
    · obtain ⟨_, es, n, hob, _⟩ := (R.own _ _ q).2.2
      exact absurd (Nat.lt_trans hab (z ▸ Heap.lt_size hob)) (Nat.lt_irrefl _)
  have hm₀ : (fun y => (bindL (envX qual scope s.heap.objs.size fa cdv (cellsFrom (s.heap.objs.size + 1) scope.names [])).kindOf binds (fun _ => none) y).map er) = m₀ := funext b1
  -- the cells stand beside what is out of reach
  let H₂ : AH := fun a => if C.F a = none then H₁ a else none
  have hF : ∀ a o, C.F a = some o → orF σ.H C.F a = some o := fun a o q => by
    show (σ.H a).or (C.F a) = some o
    rw [(D a).resolve_right (by rw [q]; simp), q]; rfl
  have e₂ : orF H₂ C.F = H₁ := by
    funext a
    show (if C.F a = none then H₁ a else none).or (C.F a) = H₁ a
    cases q : C.F a with
    | none => simp
    | some o => rw [k₁.at (hF a o q)]; simp
  have D₂ : Disj H₂ C.F := fun a => by
    show (if C.F a = none then H₁ a else none) = none ∨ _
    by_cases q : C.F a = none
    · exact .inr q
    · rw [if_neg q]; exact .inl rfl
  have hF₂ : ∀ a, H₂ a = if C.F a = none then H₁ a else none := fun _ => rfl
  have S₂ : Sat (ground C.b C.L s.heap) s.heap.objs.size C.F h₁ ⟨m₀, H₂⟩ :=
    ⟨_, dd, ⟨x.toInCall.ns, fun y o q => hk₁ y o (ground_of q), by rw [ground_size]; exact Nat.le_refl _⟩, b1, e₂.symm ▸ R₂, D₂⟩
  have ok' : OkA (C.A.deeper (envX qual scope s.heap.objs.size fa cdv (cellsFrom (s.heap.objs.size + 1) scope.names []))) n := ok.deeper _
  have B := h (ground C.b C.L s.heap) s.heap.objs.size H₂ (G.keeps fun x o => S.base) ok' (fun a o _ q => by
      rw [hF₂, if_pos (D.at q)]; exact k₁.at (orF_l q)) (fun n c hm => ⟨by
      cases q : σ.H c with
      | none => rfl
      | some o => exact absurd (Nat.lt_trans (x.above n c hm) (inH _ _ (orF_l q))) (Nat.lt_irrefl _), by
      have hab : s.heap.objs.size < c := x.above n c hm
      have hFc : C.F c = none := by
        cases q : C.F c with
        | none => rfl
        | some o => exact absurd (Nat.lt_trans hab (inH _ _ (hF _ _ q))) (Nat.lt_irrefl _)
      rw [hF₂, if_pos hFc, hc₁ n c hm, ← b2 n]
      cases bindC (envX qual scope s.heap.objs.size fa cdv (cellsFrom (s.heap.objs.size + 1) scope.names [])).kindOf binds (fun _ => none) n <;> rfl⟩) (fun a q hne => by
      rw [hF₂]
      split
      · rename_i hFa
        exact hn₁ a (by show (σ.H a).or (C.F a) = none; rw [q, hFa]; rfl) hne
      · rfl)
  refine wpAny_mono (B { s with heap := h₁, toks := tk } S₂) (fun fl s' ⟨σ', h', tk, q, S', p'⟩ => ?_) fun _ _ x => x.elim
  have S₃ := S.leave S'
  cases fl <;> exact ⟨_, ⟨σ.m, σ'.H⟩, h', tk, rfl, q, S₃, p'⟩

/-- A class of the text is called. -/
theorem CodeTo.cls (G : Ground0 K p loose C.b) {Cl fI : Addr} (hm : makesIn K Cl = true) (hi : findIn K (.ref Cl) "__init__" = some (some (.ref fI))) (hf : isFn K (.ref fI) = true)
    (h : ∀ x, σ.H x = none → CodeTo { C with A := C.A.under (.builtin "type.__call__" ⟨.ref Cl :: [], []⟩) } (.ref fI) (.ref x :: vs) ⟨σ.m, upd σ.H x (.inst Cl [])⟩ fun v σ' => v = .none ∧ Φ (.ref x) σ') : CodeTo C (.ref Cl) vs σ Φ := fun vs' e s S => by
  obtain ⟨m', dd, F, em, R, D⟩ := id S.ex
  refine make_K F (full_news C.b C.L s.heap) (G.inK.keeps fun x o => S.keep) hm hi (beq_iff_eq.mp hf) fun x dx h' F' N' l1 l2 => ?_
  obtain ⟨a1, a2, a3⟩ := N' (x, instObj Cl dx) (.head _)
  obtain ⟨d1, d2, d3⟩ := N' (dx, emptyDict) (.tail _ (.head _))
  have new : ∀ y, y ≠ C.L → C.b.get? y = none → dx ≤ y → s.heap.get? y = none := fun y hy hb hd => by
    cases q : s.heap.get? y with
    | none => rfl
    | some o => exact absurd (Nat.lt_of_lt_of_le (l1 _ (mem_full.mpr ⟨q, hy, hb⟩)) hd) (Nat.lt_irrefl _)
  have hx := new x a2 a3 (Nat.le_of_lt l2)
  have hdx := new dx d2 d3 (Nat.le_refl _)
  obtain ⟨dd', R', hn⟩ := R.addI (h' := h') (C := Cl) (fs := []) (es := []) (n := 0) hx hdx (Nat.ne_of_gt l2) a3 d3 a2 d2
    (fun y o hy q => stays_full (P := fun _ => False) F F' N' (fun p hp _ => .tail _ (.tail _ hp)) (fun _ z => z.elim) y o (fun z => z) hy q) a1 d1 trivial
  have S' : Sat C.b C.L C.F h' ⟨σ.m, upd σ.H x (.inst Cl [])⟩ := ⟨m', dd', F', em, upd_orF ▸ R', D.upd (orF_n hn).2⟩
  have := h x (orF_n hn).1 (.ref x :: vs') (by simp [e, er]) { s with heap := h' } S'
  refine codeAny_mono this fun r s' ⟨v, σ', h', tk, q, q', S'', p1, p2⟩ => ?_
  subst q
  have hv := er_none p1
  subst hv
  exact ⟨rfl, .ref x, σ', h', tk, rfl, q', S'', p2⟩
end
end Mine
end
section
set_option maxRecDepth 100000
set_option Elab.async false
set_option linter.unusedVariables false
namespace Mine
open PySem PySem.W PySem.Calls PyProof.Rows

section
variable {C : Cx} {env : Env} {e value slc o : Expr} {σ : St} {pos apos : Pos} {Φ : Value → St → Prop} {K : Frag} {p : Program} {loose : List Str} {l a : Addr} {vs ws : List Value} {v : Value} {k : Int} {t u : Tok}

theorem list_is {b h : Heap} {L a : Addr} {F : AH} {σ : St} {vs : List Value} (S : Sat b L F h σ) (e : σ.H a = some (.list vs)) : ∃ vs', h.IsList a (List.toArray vs') ∧ vs'.map er = vs := by
  obtain ⟨dd, vs', n, h1, h2⟩ := S.obj e
  exact ⟨vs', ⟨_, h1, rfl, n, rfl⟩, h2⟩
theorem tup_is {b h : Heap} {L a : Addr} {F : AH} {σ : St} {vs : List Value} (S : Sat b L F h σ) (e : σ.H a = some (.tup vs)) : ∃ vs', IsTup h a (List.toArray vs') ∧ vs'.map er = vs := by
  obtain ⟨dd, vs', n, h1, h2⟩ := S.obj e
  exact ⟨vs', ⟨_, h1, rfl, n, rfl⟩, h2⟩
theorem get_er {vs' vs : List Value} {i : Nat} {v : Value} (e : vs'.map er = vs) (h : vs[i]? = some v) : ∃ v', vs'[i]? = some v' ∧ er v' = v := by
  subst e
  rw [List.getElem?_map] at h
  exact Option.map_eq_some_iff.mp h

theorem map_er1 {vs' : List Value} {a : Value} (e : vs'.map er = [a]) : ∃ x, vs' = [x] ∧ er x = a := by
  obtain ⟨x, t, rfl, h1, h2⟩ := List.map_eq_cons_iff.mp e
  obtain rfl := List.map_eq_nil_iff.mp h2
  exact ⟨x, rfl, h1⟩
theorem map_er2 {vs' : List Value} {a b : Value} (e : vs'.map er = [a, b]) : ∃ x y, vs' = [x, y] ∧ er x = a ∧ er y = b := by
  obtain ⟨x, t, rfl, h1, h2⟩ := List.map_eq_cons_iff.mp e
  obtain ⟨y, rfl, h3⟩ := map_er1 h2
  exact ⟨x, y, rfl, h1, h3⟩
theorem map_er3 {vs' : List Value} {a b c : Value} (e : vs'.map er = [a, b, c]) : ∃ x y z, vs' = [x, y, z] ∧ er x = a ∧ er y = b ∧ er z = c := by
  obtain ⟨x, t, rfl, h1, h2⟩ := List.map_eq_cons_iff.mp e
  obtain ⟨y, z, rfl, h3, h4⟩ := map_er2 h2
  exact ⟨x, y, z, rfl, h1, h3, h4⟩

/-! Items -/
def ItemTo (C : Cx) (value slc : Expr) (o i : Value) (σ : St) (Φ : Value → St → Prop) : Prop := ∀ vo vi, er vo = o → er vi = i → Tr C (subscriptTail value slc vo vi) σ fun v σ' => Φ (er v) σ'
theorem ItemTo.list (hl : σ.H l = some (.list vs)) (h0 : 0 ≤ k) (hk : k < 2 ^ 63) (hx : vs[k.toNat]? = some v) (h : Φ v σ)
    (hs : ∀ o i, subscripted slc false o i = operate [o, i] (getItem o i) := by intro _ _; rfl) : ItemTo C value slc (.ref l) (.int k t) σ Φ := fun vo vi eo ei s S => by
  rw [er_ref eo]; obtain ⟨u, rfl⟩ := er_int ei
  obtain ⟨vs', hL, em⟩ := list_is S hl
  obtain ⟨v', hv, hv'⟩ := get_er em hx
  exact tail_any hL.typeIs slot_list_getitem.lookup (wpAny_getItem_list hL h0 hk (by simpa using hv) ⟨σ, s.heap, _, rfl, S, by dsimp only; rw [hv']; exact h⟩) (hs _ _)
theorem ItemTo.listN (hl : σ.H l = some (.list vs)) (h0 : k < 0) (h1 : -(vs.length : Int) ≤ k) (hk : -(2 ^ 63) ≤ k) (hx : vs[(k + vs.length).toNat]? = some v) (h : Φ v σ)
    (hs : ∀ o i, subscripted slc false o i = operate [o, i] (getItem o i) := by intro _ _; rfl) : ItemTo C value slc (.ref l) (.int k t) σ Φ := fun vo vi eo ei s S => by
  rw [er_ref eo]; obtain ⟨u, rfl⟩ := er_int ei
  obtain ⟨vs', hL, em⟩ := list_is S hl
  have hlen : vs'.length = vs.length := by rw [← em, List.length_map]
  obtain ⟨v', hv, hv'⟩ := get_er em hx
  refine tail_any hL.typeIs slot_list_getitem.lookup (wpAny_getItem_list_neg hL h0 (by simpa [hlen] using h1) hk ?_ ⟨σ, s.heap, _, rfl, S, by dsimp only; rw [hv']; exact h⟩) (hs _ _)
  simpa [hlen] using hv
theorem ItemTo.tup {j : Nat} (hl : σ.H l = some (.tup vs)) (h0 : -(2 ^ 63) ≤ k) (hk : k < 2 ^ 63) (hj : seqIndex? k vs.length = some j) (hx : vs[j]? = some v) (h : Φ v σ)
    (hs : ∀ o i, subscripted slc false o i = operate [o, i] (getItem o i) := by intro _ _; rfl) : ItemTo C value slc (.ref l) (.int k t) σ Φ := fun vo vi eo ei s S => by
  rw [er_ref eo]; obtain ⟨u, rfl⟩ := er_int ei
  obtain ⟨vs', hL, em⟩ := tup_is S hl
  have hlen : vs'.length = vs.length := by rw [← em, List.length_map]
  obtain ⟨v', hv, hv'⟩ := get_er em hx
  exact item_tupleT hL h0 hk (by rw [hlen]; exact hj) hv ⟨σ, s.heap, _, rfl, S, by dsimp only; rw [hv']; exact h⟩ (hs _ _)
theorem Ev.sub (h : Ev C env value σ fun o σ₁ => Ev C env slc σ₁ fun i σ₂ => ItemTo C value slc o i σ₂ Φ) : Ev C env (.Subscript value slc pos) σ Φ := fun s S =>
  Subscript_ (Tr.run h S fun o σ₁ h₁ k₁ S₁ p₁ => Tr.run p₁ S₁ fun i σ₂ h₂ k₂ S₂ p₂ => Tr.run (p₂ _ _ rfl rfl) S₂ fun v σ₃ h₃ k₃ S₃ p₃ => ⟨σ₃, h₃, k₃, rfl, S₃, p₃⟩)
theorem Pe.item (ho : Pe C env value σ (.ref l)) (hi : Pe C env slc σ (.int k t)) (hl : σ.H l = some (.list vs)) (h0 : 0 ≤ k) (hk : k < 2 ^ 63) (hx : vs[k.toNat]? = some v)
    (hs : ∀ o i, subscripted slc false o i = operate [o, i] (getItem o i) := by intro _ _; rfl) : Pe C env (.Subscript value slc pos) σ v :=
  Ev.sub (ho.ev (hi.ev (.list hl h0 hk hx ⟨rfl, rfl⟩ hs)))
theorem Pe.itemN (ho : Pe C env value σ (.ref l)) (hi : Pe C env slc σ (.int k t)) (hl : σ.H l = some (.list vs)) (h0 : k < 0) (h1 : -(vs.length : Int) ≤ k) (hk : -(2 ^ 63) ≤ k) (hx : vs[(k + vs.length).toNat]? = some v)
    (hs : ∀ o i, subscripted slc false o i = operate [o, i] (getItem o i) := by intro _ _; rfl) : Pe C env (.Subscript value slc pos) σ v :=
  Ev.sub (ho.ev (hi.ev (.listN hl h0 h1 hk hx ⟨rfl, rfl⟩ hs)))
theorem Pe.itemT {j : Nat} (ho : Pe C env value σ (.ref l)) (hi : Pe C env slc σ (.int k t)) (hl : σ.H l = some (.tup vs)) (h0 : -(2 ^ 63) ≤ k) (hk : k < 2 ^ 63) (hj : seqIndex? k vs.length = some j) (hx : vs[j]? = some v)
    (hs : ∀ o i, subscripted slc false o i = operate [o, i] (getItem o i) := by intro _ _; rfl) : Pe C env (.Subscript value slc pos) σ v :=
  Ev.sub (ho.ev (hi.ev (.tup hl h0 hk hj hx ⟨rfl, rfl⟩ hs)))

/-! Slices of lists -/
def PartOf : Value → Option Int → Prop
  | .none, none => True
  | .int i _, some j => i = j
  | _, _ => False
theorem part_is {v : Value} {i : Option Int} (h : PartOf (er v) i) : IsPart v i := by
  cases v <;> cases i <;> simp_all [PartOf, er] <;> first | exact .none | (subst h; exact .int _ _)
def Pp (C : Cx) (env : Env) (x : Option Expr) (σ : St) (i : Option Int) : Prop := Tr C (evalPart x env) σ fun v σ' => PartOf (er v) i ∧ σ' = σ
theorem Pp.none : Pp C env none σ none := Tr.pure ⟨trivial, rfl⟩
theorem Pp.some {i : Int} (h : Pe C env e σ (.int i t)) : Pp C env (some e) σ (some i) := Tr.mono h fun v σ' ⟨q, q'⟩ => ⟨by rw [q]; rfl, q'⟩
theorem Ev.slice {lower upper step : Option Expr} {lo hi st : Option Int} {sp : Pos} (h : Ev C env value σ fun ov σ₁ => ∃ l vs, ov = .ref l ∧ σ₁.H l = some (.list vs) ∧ Pp C env lower σ₁ lo ∧ Pp C env upper σ₁ hi ∧ Pp C env step σ₁ st ∧ st ≠ Option.some 0 ∧ vs.length ≤ sizeLine ∧
      ∀ a, σ₁.H a = Option.none → Φ (.ref a) ⟨σ₁.m, upd σ₁.H a (.list ((slicePick vs.toArray lo hi st).toList))⟩)
    (hs : ∀ o i, ∃ ops, subscripted (.Slice lower upper step sp) false o i = operate ops (getItem o i) := by intro _ _; exact ⟨_, rfl⟩) : Ev C env (.Subscript value (.Slice lower upper step sp) pos) σ Φ := fun s S => by
  refine Subscript_ (Tr.run h S fun ov σ₁ h₁ k₁ S₁ ⟨l, vs, q, hl, p1, p2, p3, h0, hz, p4⟩ => wpAny_Slice ?_)
  refine Tr.run p1 S₁ fun vl σ₂ h₂ k₂ S₂ ⟨e1, q2⟩ => ?_
  subst q2
  refine Tr.run p2 S₂ fun vu σ₃ h₃ k₃ S₃ ⟨e2, q3⟩ => ?_
  subst q3
  refine Tr.run p3 S₃ fun vt σ₄ h₄ k₄ S₄ ⟨e3, q4⟩ => ?_
  subst q4
  rw [er_ref q]
  obtain ⟨vs', hL, em⟩ := list_is S₄ hl
  have hlen : vs'.length = vs.length := by rw [← em, List.length_map]
  obtain ⟨ops, hs⟩ := hs (.ref l) (.ref h₄.objs.size)
  have hL' : (h₄.push { cls := .type "slice", data := .fields #[vl, vu, vt] }).IsList l vs'.toArray := hL.push _
  refine tail_any hL'.typeIs slot_list_getitem.lookup (wpAny_getItem_list_slice hL' (Heap.IsSliceOf.new ..) (part_is e1) (part_is e2) (part_is e3) h0 ?_ (by rw [List.size_toArray, hlen]; exact hz)) hs
  have S₅ := S₄.push_ (ob := { cls := .type "slice", data := .fields #[vl, vu, vt] })
  have em' : ((slicePick vs'.toArray lo hi st).toList).map er = (slicePick vs.toArray lo hi st).toList := by
    subst em
    unfold slicePick
    simp only [List.size_toArray, List.length_map]
    rw [List.map_filterMap]
    congr 1
    funext i
    simp [List.getElem?_map]
  obtain ⟨S₆, hn⟩ := S₅.push (ob := { cls := .type "list", data := .seq (slicePick vs'.toArray lo hi st) }) (o := .list ((slicePick vs.toArray lo hi st).toList)) rfl (fun _ _ => by simp)
    fun dd => ⟨(slicePick vs'.toArray lo hi st).toList, 0, by simpa using Heap.get?_push_size (h₄.push { cls := .type "slice", data := .fields #[vl, vu, vt] }) (o := { cls := .type "list", data := .seq (slicePick vs'.toArray lo hi st) }) rfl, em'⟩
  exact ⟨_, _, _, rfl, S₆, p4 _ hn⟩

/-! Items are stored -/
theorem setItem_at {s : Shared} {E : Value → Shared → Prop} {items : Array Value} {n : Nat} {Q : Unit → Shared → Prop} (ho : s.heap.get? l = some (listOf items n)) (h0 : 0 ≤ k) (hfit : k < 2 ^ 63) (hn : k < items.size)
    (hQ : Q () { s with heap := s.heap.update l (Obj.mapSeq (·.setIfInBounds k.toNat v)) }) : wpAny (model C.prog C.w) C.A (setItem (.ref l) (.int k t) v) Q E s := by
  have hl : s.heap.IsList l items := ⟨_, ho, rfl, n, rfl⟩
  unfold setItem
  refine wpAny_holding ?_
  refine wpAny_bind (wpAny_sequenceKey hl.typeIs (by decide) ?_)
  refine wpAny_bind (wpAny_callSpecial?_slot (name := Str.ofString "__setitem__") hl.typeIs slot_list_setitem
    (wpAny_call_entry slot_list_setitem hl.typeIs entry_list_setitem ?_ (args_list_setitem _ _ _)))
  show wpAny _ _ (Builtin.List.listSubscript? (.int k t) >>= _) _ _ s
  refine wpAny_bind (wpAny_listSubscript_int (fitsIndex_of h0 hfit) ?_)
  clear hfit
  obtain ⟨j, rfl⟩ := Int.eq_ofNat_of_zero_le h0
  have hj : j < items.size := by omega
  have hx' : items[j]? = some items[j] := Array.getElem?_eq_getElem hj
  show wpAny _ _ ((seqItemAt l j >>= fun r => pure (r.map (j, ·))) >>= _) _ _ s
  refine wpAny_bind (wpAny_bind (wpAny_seqItemAt ho rfl (wpAny_pure ?_)))
  rw [hx']
  show wpAny _ _ (setSeqItemAt l j v >>= _) _ _ s
  refine wpAny_bind (wpAny_setSeqItemAt ho rfl ?_)
  exact wpAny_pure ⟨.none, rfl, wpAny_pure hQ⟩
theorem tr_setItem {Ψ : Unit → St → Prop} {vi : Value} (hl : σ.H l = some (.list vs)) (hi : er vi = .int k t) (h0 : 0 ≤ k) (hk : k < vs.length) (hf : k < 2 ^ 63) (h : Ψ () ⟨σ.m, upd σ.H l (.list (vs.set k.toNat (er v)))⟩) :
    Tr C (setItem (.ref l) vi v) σ Ψ := fun s S => by
  obtain ⟨u, rfl⟩ := er_int hi
  obtain ⟨dd, vs', n, h1, em⟩ := S.obj hl
  have hlen : vs'.length = vs.length := by rw [← em, List.length_map]
  refine setItem_at h1 h0 hf (by rw [List.size_toArray, hlen]; exact hk) ⟨⟨σ.m, upd σ.H l (.list (vs.set k.toNat (er v)))⟩, _, _, rfl, S.set hl (fun _ _ => by simp) (fun _ _ => by simp) (Heap.SameBut.update ..) fun dd => ?_, h⟩
  refine ⟨vs'.set k.toNat v, n, ?_, by rw [← em, List.map_set]⟩
  rw [Heap.get?_update_self _ h1 (by simp [Obj.mapSeq, Obj.isFreed])]
  simp [Obj.mapSeq]
theorem Ex.setitem {Φ : Flow → St → Prop} {ob ix : Expr} (hs : swapsWith value (some (.Subscript ob ix apos)) pos.line env = pure false)
    (h : Ev C env value σ fun v σ₁ => Ev C env ob σ₁ fun ov σ₂ => Ev C env ix σ₂ fun iv σ₃ => ∃ l vs k t, ov = .ref l ∧ iv = .int k t ∧ σ₃.H l = some (.list vs) ∧ 0 ≤ k ∧ k < vs.length ∧ k < 2 ^ 63 ∧ Φ .next ⟨σ₃.m, upd σ₃.H l (.list (vs.set k.toNat v))⟩) :
    Ex C env (.Assign [.Subscript ob ix apos] value pos) σ Φ := fun s S =>
  wpAny_Assign_Subscript (Tr.run h S fun v σ₁ h₁ k₁ S₁ p₁ => Tr.run p₁ S₁ fun ov σ₂ h₂ k₂ S₂ p₂ => Tr.run p₂ S₂ fun iv σ₃ h₃ k₃ S₃ ⟨l, vs, k, t, q, qi, hl, a, b, c, p₃⟩ => by
    rw [er_ref q]
    exact Tr.run (tr_setItem (v := v) (Ψ := fun _ σ' => Φ .next σ') hl qi a b c p₃) S₃ fun _ σ₄ h₄ k₄ S₄ p₄ => ⟨σ₄, h₄, k₄, rfl, S₄, p₄⟩) hs

/-! Lists joined; append; lengths -/
theorem add_lists_at {va vb : Value} (ea : er va = .ref l) (eb : er vb = .ref a) (hl : σ.H l = some (.list vs)) (ha : σ.H a = some (.list ws)) (hz : vs.length + ws.length ≤ sizeLine)
    (h : ∀ n, σ.H n = none → Φ (.ref n) ⟨σ.m, upd σ.H n (.list (vs ++ ws))⟩) : Tr C (binaryOp .Add va vb) σ fun v σ' => Φ (er v) σ' := fun s S => by
  rw [er_ref ea, er_ref eb]
  obtain ⟨m', dd, F, em, R, D⟩ := id S.ex
  obtain ⟨vs', hL, e1⟩ := list_is S hl
  obtain ⟨ws', hB, e2⟩ := list_is S ha
  have l1 : vs'.length = vs.length := by rw [← e1, List.length_map]
  have l2 : ws'.length = ws.length := by rw [← e2, List.length_map]
  refine add_lists F (full_news C.b C.L s.heap) hL hB (fun h' F' N' => ?_) (by rw [l1, l2]; exact hz)
  obtain ⟨x1, x2, x3⟩ := N' _ (.head _)
  have hn : s.heap.get? s.heap.objs.size = none := by
    cases q : s.heap.get? s.heap.objs.size with
    | none => rfl
    | some x => exact absurd (Heap.lt_size q) (Nat.lt_irrefl _)
  obtain ⟨R', hH⟩ := R.add (o := .list (vs ++ ws)) hn x3 x2 (fun _ _ => by simp) (fun y o hy q => stays_full (P := fun _ => False) F F' N' (fun p hp _ => .tail _ hp) (fun _ z => z.elim) y o (fun z => z) hy q)
    ⟨vs' ++ ws', 0, x1, by rw [List.map_append, e1, e2]⟩
  exact ⟨⟨σ.m, upd σ.H s.heap.objs.size (.list (vs ++ ws))⟩, h', _, rfl, ⟨m', dd, F', em, upd_orF ▸ R', D.upd (orF_n hH).2⟩, h _ (orF_n hH).1⟩
theorem Ev.addl {r : Expr} (h : Ev C env e σ fun av σ₁ => Ev C env r σ₁ fun bv σ₂ => ∃ l a vs ws, av = .ref l ∧ bv = .ref a ∧ σ₂.H l = some (.list vs) ∧ σ₂.H a = some (.list ws) ∧ vs.length + ws.length ≤ sizeLine ∧
      ∀ n, σ₂.H n = none → Φ (.ref n) ⟨σ₂.m, upd σ₂.H n (.list (vs ++ ws))⟩) : Ev C env (.BinOp e .Add r pos) σ Φ := fun s S =>
  wpAny_BinOp (Tr.run h S fun av σ₁ h₁ k₁ S₁ p₁ => Tr.run p₁ S₁ fun bv σ₂ h₂ k₂ S₂ ⟨l, a, vs, ws, q1, q2, hl, ha, hz, p₂⟩ =>
    Tr.run (add_lists_at q1 q2 hl ha hz p₂) S₂ fun v σ₃ h₃ k₃ S₃ p₃ => ⟨σ₃, h₃, k₃, rfl, S₃, p₃⟩)
theorem CallTo.append (hl : σ.H l = some (.list vs)) (hz : vs.length ≤ sizeLine) (h : Φ .none ⟨σ.m, upd σ.H l (.list (vs ++ [v]))⟩) : CallTo C (.builtin "list.append") [.ref l, v] σ Φ := fun vs' e s S => by
  obtain ⟨x, y, rfl, e1, e2⟩ := map_er2 e
  rw [er_ref e1]
  obtain ⟨m', dd, F, em, R, D⟩ := id S.ex
  obtain ⟨hb, hL, ws, n, hO, ew⟩ := R.own _ _ (orF_l hl)
  have hlen : ws.length = vs.length := by rw [← ew, List.length_map]
  obtain ⟨news', U, hm, hk⟩ := upd_of (o' := listOf (ws.toArray.push y) (n + 1)) (full_nodup C.b C.L s.heap) (mem_full.mpr ⟨hO, hL, hb⟩)
  refine append_K F (full_news C.b C.L s.heap) U (fun h' F' N' => ⟨⟨σ.m, upd σ.H l (.list (vs ++ [v]))⟩, h', _, rfl, ⟨m', dd, F', em, upd_orF ▸ R.set (orF_l hl) (fun _ _ => by simp) (fun _ _ => by simp) ?_ ⟨ws ++ [y], n + 1, ?_, by rw [List.map_append, ew, ← e2]; rfl⟩, D.upd (D.at hl)⟩, h⟩) (by rw [List.size_toArray, hlen]; exact hz)
  · exact fun x ob hx hxL q => stays_full (P := fun z => z = l) F F' N' (fun p hp hne => hk p hp hne) (fun z hz => hz ▸ hb) x ob hx hxL q
  · have := (N' _ hm).1
    simpa using this
theorem CallTo.len (hl : σ.H l = some (.list vs)) (hz : vs.length ≤ sizeLine) (h : Φ (.int vs.length 0) σ) : CallTo C (.builtin "len") [.ref l] σ Φ := fun vs' e s S => by
  obtain ⟨x, rfl, e1⟩ := map_er1 e
  rw [er_ref e1]
  obtain ⟨ws, hL, ew⟩ := list_is S hl
  have hlen : ws.length = vs.length := by rw [← ew, List.length_map]
  have : sizeLine = 2 ^ 24 := rfl
  exact len_list hL (by rw [List.size_toArray, hlen]; omega) ⟨σ, s.heap, _, rfl, S, by simpa [er, hlen] using h⟩
theorem CallTo.lenT (hl : σ.H l = some (.tup vs)) (hz : vs.length ≤ sizeLine) (h : Φ (.int vs.length 0) σ) : CallTo C (.builtin "len") [.ref l] σ Φ := fun vs' e s S => by
  obtain ⟨x, rfl, e1⟩ := map_er1 e
  rw [er_ref e1]
  obtain ⟨ws, hL, ew⟩ := tup_is S hl
  have hlen : ws.length = vs.length := by rw [← ew, List.length_map]
  have : sizeLine = 2 ^ 24 := rfl
  exact len_tuple hL (by rw [List.size_toArray, hlen]; omega) ⟨σ, s.heap, _, rfl, S, by simpa [er, hlen] using h⟩
end
end Mine
end
section
set_option maxRecDepth 100000
set_option Elab.async false
set_option linter.unusedVariables false
namespace Mine
open PySem PySem.W PySem.Calls PyProof.Rows

/-! Iterators -/
structure IterOver (C : Cx) (vals : List Value) (st : Nat → AO) (src : AH → Prop) : Prop where
  noinst : ∀ i Cl fs, st i ≠ .inst Cl fs
  mono : ∀ H H', Same H H' → src H → src H'
  next : ∀ b L F i σ it v (Φ : Option Value → St → Prop), σ.H it = some (st i) → src σ.H → vals[i]? = some v → Φ (some v) ⟨σ.m, upd σ.H it (st (i + 1))⟩ → Tr { C with b := b, L := L, F := F } (pyNext (.ref it)) σ fun r σ' => Φ (r.map er) σ'
  done : ∀ b L F σ it (Φ : Option Value → St → Prop), σ.H it = some (st vals.length) → src σ.H → Φ none ⟨σ.m, dropA σ.H it⟩ → Tr { C with b := b, L := L, F := F } (pyNext (.ref it)) σ fun r σ' => Φ (r.map er) σ'
  self : ∀ b L F i σ it (Φ : Value → St → Prop), σ.H it = some (st i) → Φ (.ref it) σ → Tr { C with b := b, L := L, F := F } (pyIter (.ref it)) σ fun r σ' => Φ (er r) σ'
def MakesIter (C : Cx) (a : Value) (σ : St) (o : AO) : Prop := ∀ Φ : Value → St → Prop, (∀ it, σ.H it = none → Φ (.ref it) ⟨σ.m, upd σ.H it o⟩) → Tr C (pyIter a) σ fun v σ' => Φ (er v) σ'

section
variable {C : Cx} {env : Env} {σ : St} {K : Frag} {p : Program} {loose : List Str} {l a : Addr} {vs : List Value}
theorem IterOver.list (hd : C.A.handled = none) (l : Addr) (vs : List Value) : IterOver C vs (.liter l) (fun H => H l = some (.list vs)) where
  noinst := fun _ _ _ => by simp
  mono := fun H H' k e => k.at e
  next := fun b L F i σ it v Φ h1 h2 hv h s S => by
    obtain ⟨dd, hit⟩ := S.obj h1
    obtain ⟨vs', hL, em⟩ := list_is S h2
    obtain ⟨v', hv', e⟩ := get_er em hv
    refine wpAny_pyNext_list_item hit hL (by simpa using hv') fun h' hit' hs => ?_
    exact ⟨⟨σ.m, upd σ.H it (.liter l (i + 1))⟩, h', _, rfl, S.set h1 (fun _ _ => by simp) (fun _ _ => by simp) hs (fun dd => hit'), by dsimp only [Option.map]; rw [e]; exact h⟩
  done := fun b L F σ it Φ h1 h2 h s S => by
    obtain ⟨dd, hit⟩ := S.obj h1
    obtain ⟨vs', hL, em⟩ := list_is S h2
    have hlen : vs'.length = vs.length := by rw [← em, List.length_map]
    refine wpAny_pyNext_list_end hd hit hL (by simp [hlen]) fun h' hs => ?_
    exact ⟨⟨σ.m, dropA σ.H it⟩, h', _, rfl, S.drop h1 (fun _ _ => by simp) hs, h⟩
  self := fun b L F i σ it Φ h1 h s S => by
    obtain ⟨dd, hit⟩ := S.obj h1
    exact wpAny_pyIter_listiter hit ⟨σ, s.heap, _, rfl, S, h⟩
theorem IterOver.tup (hd : C.A.handled = none) (l : Addr) (vs : List Value) : IterOver C vs (.titer l) (fun H => H l = some (.tup vs)) where
  noinst := fun _ _ _ => by simp
  mono := fun H H' k e => k.at e
  next := fun b L F i σ it v Φ h1 h2 hv h s S => by
    obtain ⟨dd, hit⟩ := S.obj h1
    obtain ⟨vs', hL, em⟩ := tup_is S h2
    obtain ⟨v', hv', e⟩ := get_er em hv
    refine wpAny_pyNext_tuple_item hit hL (by simpa using hv') fun h' hit' hs => ?_
    exact ⟨⟨σ.m, upd σ.H it (.titer l (i + 1))⟩, h', _, rfl, S.set h1 (fun _ _ => by simp) (fun _ _ => by simp) hs (fun dd => hit'), by dsimp only [Option.map]; rw [e]; exact h⟩
  done := fun b L F σ it Φ h1 h2 h s S => by
    obtain ⟨dd, hit⟩ := S.obj h1
    obtain ⟨vs', hL, em⟩ := tup_is S h2
    have hlen : vs'.length = vs.length := by rw [← em, List.length_map]
    refine wpAny_pyNext_tuple_end hd hit hL (by simp [hlen]) fun h' hs => ?_
    exact ⟨⟨σ.m, dropA σ.H it⟩, h', _, rfl, S.drop h1 (fun _ _ => by simp) hs, h⟩
  self := fun b L F i σ it Φ h1 h s S => by
    obtain ⟨dd, hit⟩ := S.obj h1
    exact wpAny_pyIter_tupleiter hit ⟨σ, s.heap, _, rfl, S, h⟩
def rvals (lo : Int) (n : Nat) : List Value := (List.range n).map fun (i : Nat) => .int (lo + (i : Int)) 0
theorem rvals_len (lo : Int) (n : Nat) : (rvals lo n).length = n := by simp [rvals]
theorem rvals_get {lo : Int} {n i : Nat} {v : Value} (h : (rvals lo n)[i]? = some v) : i < n ∧ v = .int (lo + i) 0 := by
  unfold rvals at h
  rw [List.getElem?_map] at h
  obtain ⟨j, h1, h2⟩ := Option.map_eq_some_iff.mp h
  obtain ⟨h3, h4⟩ := List.getElem?_eq_some_iff.mp h1
  simp at h3 h4
  subst h4
  exact ⟨h3, h2.symm⟩
theorem IterOver.range (hd : C.A.handled = none) (lo : Int) (n : Nat) : IterOver C (rvals lo n) (fun i => .riter (lo + i) ((n : Int) - i)) (fun _ => True) where
  noinst := fun _ _ _ => by simp
  mono := fun H H' k e => trivial
  next := fun b L F i σ it v Φ h1 h2 hv h s S => by
    obtain ⟨dd, hit⟩ := S.obj h1
    obtain ⟨hi, rfl⟩ := rvals_get hv
    refine wpAny_pyNext_range_item hit (by omega) fun h' hit' hs => ?_
    refine ⟨⟨σ.m, upd σ.H it (.riter (lo + (i + 1 : Nat)) ((n : Int) - (i + 1 : Nat)))⟩, h', _, rfl, S.set h1 (fun _ _ => by simp) (fun _ _ => by simp) hs (fun dd => ?_), h⟩
    have e1 : lo + ((i + 1 : Nat) : Int) = lo + i + 1 := by omega
    have e2 : (n : Int) - ((i + 1 : Nat) : Int) = n - i - 1 := by omega
    rw [e1, e2]; exact hit'
  done := fun b L F σ it Φ h1 h2 h s S => by
    obtain ⟨dd, hit⟩ := S.obj h1
    rw [rvals_len] at hit
    refine wpAny_pyNext_range_end hd hit (by omega) fun h' hs => ?_
    exact ⟨⟨σ.m, dropA σ.H it⟩, h', _, rfl, S.drop h1 (fun _ _ => by simp) hs, h⟩
  self := fun b L F i σ it Φ h1 h s S => by
    obtain ⟨dd, hit⟩ := S.obj h1
    exact wpAny_pyIter_rangeiter hit ⟨σ, s.heap, _, rfl, S, h⟩
theorem MakesIter.list (hl : σ.H l = some (.list vs)) : MakesIter C (.ref l) σ (.liter l 0) := fun Φ h s S => by
  obtain ⟨vs', hL, em⟩ := list_is S hl
  refine wpAny_pyIter_list hL ?_
  obtain ⟨S', hn⟩ := S.push (ob := { cls := .type "list_iterator", data := .fields #[.ref l, .int 0 0] }) (o := .liter l 0) rfl (fun _ _ => by simp) fun dd => ⟨_, Heap.get?_push_size _ rfl, rfl, rfl⟩
  exact ⟨_, _, _, rfl, S', h _ hn⟩
theorem MakesIter.tup (hl : σ.H l = some (.tup vs)) : MakesIter C (.ref l) σ (.titer l 0) := fun Φ h s S => by
  obtain ⟨vs', hL, em⟩ := tup_is S hl
  refine wpAny_pyIter_tuple hL ?_
  obtain ⟨S', hn⟩ := S.push (ob := { cls := .type "tuple_iterator", data := .fields #[.ref l, .int 0 0] }) (o := .titer l 0) rfl (fun _ _ => by simp) fun dd => ⟨_, Heap.get?_push_size _ rfl, rfl, rfl⟩
  exact ⟨_, _, _, rfl, S', h _ hn⟩
theorem MakesIter.range {lo : Int} {n : Nat} (hl : σ.H l = some (.range lo (lo + n))) (h1 : -(2 ^ 62) ≤ lo) (h2 : lo + n < 2 ^ 62) : MakesIter C (.ref l) σ (.riter (lo + (0 : Nat)) ((n : Int) - (0 : Nat))) := fun Φ h s S => by
  obtain ⟨dd, t, u, v, hr⟩ := S.obj hl
  refine wpAny_pyIter_range hr (small_one h1 (by omega) (by omega) h2) ?_
  obtain ⟨S', hn⟩ := S.push (ob := { cls := .type "range_iterator", data := .fields #[rawInt lo, rawInt (Builtin.Range.rangeSize lo (lo + n) 1), rawInt 1] }) (o := .riter (lo + (0 : Nat)) ((n : Int) - (0 : Nat))) rfl (fun _ _ => by simp) fun dd => by
    have e1 : lo + ((0 : Nat) : Int) = lo := by omega
    have e2 : (n : Int) - ((0 : Nat) : Int) = Builtin.Range.rangeSize lo (lo + n) 1 := by rw [rangeSize_one]; split <;> omega
    rw [e1, e2]
    exact Heap.get?_push_size _ rfl
  exact ⟨_, _, _, rfl, S', h _ hn⟩

def single (a : Addr) (o : AO) : AH := fun x => if x = a then some o else none
theorem orF_single {H : AH} {a : Addr} {o : AO} (h : H a = none) : orF H (single a o) = upd H a o := by
  funext x
  unfold orF single upd
  by_cases q : x = a
  · subst q; simp [h]
  · simp [q]
theorem disj_single {H : AH} {a : Addr} {o : AO} (h : H a = none) : Disj H (single a o) := fun x => by
  by_cases q : x = a
  · subst q; exact .inl h
  · exact .inr (by simp [single, q])
theorem single_at {a : Addr} {o : AO} : single a o a = some o := by simp [single]
theorem disj_single_iff {H : AH} {a : Addr} {o : AO} (h : Disj H (single a o)) : H a = none := (h a).resolve_right (by simp [single])
theorem upd_upd {H : AH} {a : Addr} {o o' : AO} : upd (upd H a o) a o' = upd H a o' := by
  funext x; unfold upd; split <;> rfl
theorem drop_upd {H : AH} {a : Addr} {o : AO} (h : H a = none) : dropA (upd H a o) a = H := by
  funext x; unfold dropA upd
  by_cases q : x = a
  · subst q; simp [h]
  · simp [q]
theorem same_upd {H : AH} {a : Addr} {o : AO} (h : H a = none) : Same H (upd H a o) := Keep.new h

/-- A for whose target is one name. -/
theorem Ex.for_ {Φ : Flow → St → Prop} {x : Str} {px pos : Pos} {iter : Expr} {body : List Stmt} (hd : C.A.handled = none) (hk : env.scope.kind = .function) (hl : env.kindOf x = some .local) (hL : env.locals = C.L)
    (h : Ev C env iter σ fun xv σ₁ => ∃ a vals st src, xv = .ref a ∧ IterOver C vals st src ∧ src σ₁.H ∧ MakesIter C (.ref a) σ₁ (st 0) ∧ ∃ I : Nat → St → Prop, I 0 σ₁ ∧ (∀ i σ', I i σ' → src σ'.H) ∧
      (∀ F i v σ', vals[i]? = some v → I i σ' → Exs { C with F := F } env body ⟨putM σ'.m x v, σ'.H⟩ fun f σ'' => match f with | .next => I (i + 1) σ'' | .cont => I (i + 1) σ'' | .brk => Φ .next σ'' | .ret v => Φ (.ret v) σ'') ∧
      ∀ σ', I vals.length σ' → Φ .next σ')
    (hs : ∀ x, foldedSetIterable iter env x = pure x := by intro _; rfl) : Ex C env (.For (.Name x px) iter body [] pos) σ Φ := fun s S => by
  refine wpAny_For (Tr.run h S fun xv σ₁ h₁ k₁ S₁ ⟨a, vals, st, src, q, IO, hsrc, mk, I, hI0, hIs, turn, fin⟩ => ?_) hs
  rw [er_ref q]
  refine Tr.run (mk (fun v σ' => ∃ it, v = .ref it ∧ σ₁.H it = none ∧ σ' = ⟨σ₁.m, upd σ₁.H it (st 0)⟩) fun it hn => ⟨it, rfl, hn, rfl⟩) S₁ fun itv σ₂ h₂ k₂ S₂ ⟨it, qi, hn, q2⟩ => ?_
  subst q2
  rw [er_ref qi]
  refine codeAny_forLoop (fun n s' => ∃ i σ' h' tk', n = vals.length - i ∧ i ≤ vals.length ∧ I i σ' ∧ σ'.H it = none ∧ s' = { s with heap := h', toks := tk' } ∧ Sat C.b C.L C.F h' ⟨σ'.m, upd σ'.H it (st i)⟩) ?_ _ ⟨0, σ₁, h₂, k₂, rfl, Nat.zero_le _, hI0, hn, rfl, S₂⟩
  rintro n s' ⟨i, σ', h', tk', rfl, hi, hIi, hnn, rfl, S'⟩
  have hsr : src (upd σ'.H it (st i)) := IO.mono _ _ (same_upd hnn) (hIs _ _ hIi)
  by_cases hlt : i < vals.length
  · have hv : vals[i]? = some vals[i] := by simp [hlt]
    refine Tr.run (C := { C with F := C.F }) (IO.next C.b C.L C.F i ⟨σ'.m, upd σ'.H it (st i)⟩ it vals[i] (fun r σ'' => r = some vals[i] ∧ σ'' = ⟨σ'.m, upd σ'.H it (st (i + 1))⟩) (upd_self _ _ _) hsr hv ⟨rfl, by rw [upd_upd]⟩) S' fun r σ'' h'' tk'' S'' ⟨e1, e2⟩ => ?_
    subst e2
    cases r with
    | none => cases e1
    | some v =>
      dsimp only [Option.map] at e1
      have ev : er v = vals[i] := Option.some.inj e1
      refine wpAny_assign_Name (Tr.run (tr_store (v := v) (Ψ := fun _ σ₃ => σ₃ = ⟨putM σ'.m x vals[i], upd σ'.H it (st (i + 1))⟩) hk hl hL (by rw [ev])) S'' fun _ σ₃ h₃ tk₃ S₃ e3 => ?_)
      subst e3
      have S₃' : Sat C.b C.L C.F h₃ ⟨putM σ'.m x vals[i], orF σ'.H (single it (st (i + 1)))⟩ := by rw [orF_single hnn]; exact S₃
      refine Tr.run (Tr.frame (disj_single hnn) (turn (orF (single it (st (i + 1))) C.F) i vals[i] σ' hv hIi)) S₃' fun f σ₄ h₄ tk₄ S₄ ⟨H', e4, D4, p4⟩ => ?_
      have hn4 := disj_single_iff D4
      rw [orF_single hn4] at e4
      have S₄' : Sat C.b C.L C.F h₄ ⟨σ₄.m, upd H' it (st (i + 1))⟩ := by
        have : σ₄ = ⟨σ₄.m, upd H' it (st (i + 1))⟩ := by cases σ₄; cases e4; rfl
        rw [← this]; exact S₄
      have S₅ : Sat C.b C.L C.F h₄ ⟨σ₄.m, H'⟩ := Sat.le S₄' rfl fun y o q => (same_upd hn4).at q
      cases f with
      | next => exact ⟨vals.length - (i + 1), by omega, i + 1, ⟨σ₄.m, H'⟩, h₄, tk₄, rfl, hlt, p4, hn4, rfl, S₄'⟩
      | cont => exact ⟨vals.length - (i + 1), by omega, i + 1, ⟨σ₄.m, H'⟩, h₄, tk₄, rfl, hlt, p4, hn4, rfl, S₄'⟩
      | brk => exact ⟨⟨σ₄.m, H'⟩, h₄, tk₄, rfl, S₅, p4⟩
      | ret v => exact ⟨⟨σ₄.m, H'⟩, h₄, tk₄, rfl, S₅, p4⟩
  · have hi' : i = vals.length := by omega
    subst hi'
    refine Tr.run (C := { C with F := C.F }) (IO.done C.b C.L C.F ⟨σ'.m, upd σ'.H it (st vals.length)⟩ it (fun r σ'' => r = none ∧ σ'' = σ') (upd_self _ _ _) hsr ⟨rfl, by rw [drop_upd hnn]⟩) S' fun r σ'' h'' tk'' S'' ⟨e1, e2⟩ => ?_
    subst e2
    cases r with
    | some v => cases e1
    | none => exact wpAny_execs_nil ⟨σ'', h'', tk'', rfl, S'', fin σ'' hIi⟩
end
end Mine
end
section
set_option maxRecDepth 100000
set_option Elab.async false
set_option linter.unusedVariables false
namespace Mine
open PySem PySem.W PySem.Calls PyProof.Rows

section
variable {C : Cx} {env : Env} {e test value : Expr} {σ : St} {Φ : Flow → St → Prop} {body : List Stmt} {pos : Pos} {K : Frag} {p : Program} {loose : List Str}
theorem Ex.while_ (I : Nat → St → Prop) (n : Nat) (h0 : I n σ)
    (turn : ∀ n σ', I n σ' → It C env test σ' fun b σ'' => if b then Exs C env body σ'' (fun f σ₃ => match f with | .next => (∃ m, m < n ∧ I m σ₃) | .cont => (∃ m, m < n ∧ I m σ₃) | .brk => Φ .next σ₃ | .ret v => Φ (.ret v) σ₃) else Φ .next σ'') :
    Ex C env (.While test body [] pos) σ Φ := fun s S => by
  refine wpAny_While (codeAny_whileLoop (fun n s' => ∃ σ' h' tk', I n σ' ∧ s' = { s with heap := h', toks := tk' } ∧ Sat C.b C.L C.F h' σ') ?_ n ⟨σ, s.heap, s.toks, h0, rfl, S⟩)
  rintro n s' ⟨σ', h', tk', hI, rfl, S'⟩
  refine Tr.run (turn n σ' hI) S' fun b σ₁ h₁ k₁ S₁ p₁ => ?_
  cases b with
  | false => exact wpAny_execs_nil ⟨σ₁, h₁, k₁, rfl, S₁, p₁⟩
  | true =>
    refine Tr.run p₁ S₁ fun f σ₂ h₂ k₂ S₂ p₂ => ?_
    cases f with
    | next => obtain ⟨m, hm, hI'⟩ := p₂; exact ⟨m, hm, σ₂, h₂, k₂, hI', rfl, S₂⟩
    | cont => obtain ⟨m, hm, hI'⟩ := p₂; exact ⟨m, hm, σ₂, h₂, k₂, hI', rfl, S₂⟩
    | brk => exact ⟨σ₂, h₂, k₂, rfl, S₂, p₂⟩
    | ret v => exact ⟨σ₂, h₂, k₂, rfl, S₂, p₂⟩
theorem Ex.expr (h : Ev C env e σ fun _ σ₁ => Φ .next σ₁) (hi : interactive env = false := by rfl) (hs : swapsWith e none pos.line env = pure false := by rfl) : Ex C env (.Expr e pos) σ Φ := fun s S =>
  wpAny_Expr_any (Tr.run h S fun v σ₁ h₁ k₁ S₁ p₁ => ⟨σ₁, h₁, k₁, rfl, S₁, p₁⟩) hi hs

def IOpTo (C : Cx) (op : Operator) (a b r : Value) : Prop := ∀ va vb, er va = a → er vb = b → ∀ (s : Shared) (Q : Value → Shared → Prop) (E : Value → Shared → Prop), (∀ v k, er v = r → Q v { s with toks := k }) →
  wpAny (model C.prog C.w) C.A (inplaceOp op va vb) Q E s
theorem IOpTo.add {x y : Int} {t u : Tok} : IOpTo C .Add (.int x t) (.int y u) (.int (x + y) 0) := fun va vb ha hb s Q E k => by
  obtain ⟨_, rfl⟩ := er_int ha; obtain ⟨_, rfl⟩ := er_int hb
  exact iadd_int (k _ _ rfl)
theorem IOpTo.sub {x y : Int} {t u : Tok} : IOpTo C .Sub (.int x t) (.int y u) (.int (x - y) 0) := fun va vb ha hb s Q E k => by
  obtain ⟨_, rfl⟩ := er_int ha; obtain ⟨_, rfl⟩ := er_int hb
  exact isub_int (k _ _ rfl)
theorem Ex.aug {x : Str} {px : Pos} {op : Operator} {a b c : Value} (hk : env.scope.kind = .function) (hl : env.kindOf x = some .local) (hL : env.locals = C.L) (ha : σ.m x = some a) (hv : Pe C env value σ b) (ho : IOpTo C op a b c)
    (h : Φ .next ⟨putM σ.m x c, σ.H⟩) : Ex C env (.AugAssign (.Name x px) op value pos) σ Φ := fun s S => by
  refine wpAny_AugAssign_Name (Tr.run (tr_local (Ψ := fun v' σ' => er v' = a ∧ σ' = σ) hk hl hL ha fun v' q => ⟨q, rfl⟩) S fun old σ₁ h₁ k₁ S₁ ⟨q1, e1⟩ => ?_)
  subst e1
  refine Tr.run hv S₁ fun v σ₂ h₂ k₂ S₂ ⟨q2, e2⟩ => ?_
  subst e2
  refine ho _ _ q1 q2 _ _ _ fun r tk q3 => ?_
  refine Tr.run (s := { s with heap := h₂, toks := tk }) (tr_store (v := r) (Ψ := fun _ σ' => Φ .next σ') hk hl hL (by rw [q3]; exact h)) S₂ fun _ σ₃ h₃ k₃ S₃ p₃ => ⟨σ₃, h₃, k₃, rfl, S₃, p₃⟩

theorem Sat.all {b h h' : Heap} {L : Addr} {F : AH} {σ : St} (S : Sat b L F h σ) (k : ∀ x o, h.get? x = some o → h'.get? x = some o) : Sat b L F h' σ := by
  obtain ⟨m', dd, Fm, em, R, D⟩ := S.ex
  obtain ⟨oL, es, ep, hL, r⟩ := Fm.ns
  exact ⟨m', dd, ⟨⟨oL, es, ep, k _ _ hL, r⟩, fun x o q => k x o (Fm.keep x o q), Fm.above⟩, em, R.same fun x o _ q => k x o q, D⟩
theorem ext_size {h h' : Heap} (k : Heap.ExtBut h.objs.size h h') : ∀ x o, h.get? x = some o → h'.get? x = some o := fun x o q => k x o (Nat.ne_of_lt (Heap.lt_size q)) q

/-- two names unpacked from a tuple of two -/
theorem tr_assign2 {x y : Str} {px py tp : Pos} {kk : Nat} {v a b : Value} {t : Addr} {Ψ : Unit → St → Prop} (hd : C.A.handled = none) (hk : env.scope.kind = .function) (hlx : env.kindOf x = some .local) (hly : env.kindOf y = some .local) (hL : env.locals = C.L)
    (hv : er v = .ref t) (ht : σ.H t = some (.tup [a, b])) (h : Ψ () ⟨putM (putM σ.m x a) y b, σ.H⟩) : Tr C (assign (.Tuple [.Name x px, .Name y py] kk tp) env v) σ Ψ := fun s S => by
  rw [er_ref hv]
  obtain ⟨vs', hT, em⟩ := tup_is S ht
  obtain ⟨va, vb, rfl, e1, e2⟩ := map_er2 em
  refine assign_Tuple_tuple hd hT rfl rfl fun h' he => ?_
  have S₁ := S.all (ext_size he)
  refine assignInOrder_cons (wpAny_assign_Name (Tr.run (s := { s with heap := h' }) (tr_store (v := va) (Ψ := fun _ σ' => σ' = ⟨putM σ.m x a, σ.H⟩) hk hlx hL (by rw [e1])) S₁ fun _ σ₂ h₂ k₂ S₂ q₂ => ?_))
  subst q₂
  refine assignInOrder_cons (wpAny_assign_Name (Tr.run (tr_store (v := vb) (Ψ := fun _ σ' => σ' = ⟨putM (putM σ.m x a) y b, σ.H⟩) hk hly hL (by rw [e2])) S₂ fun _ σ₃ h₃ k₃ S₃ q₃ => ?_))
  subst q₃
  exact assignInOrder_nil ⟨_, h₃, k₃, rfl, S₃, h⟩
theorem Ex.assign2 {x y : Str} {px py tp : Pos} {kk : Nat} (hs : swapsWithSole [.Tuple [.Name x px, .Name y py] kk tp] value pos.line env = pure false) (hw : swappedStores [.Tuple [.Name x px, .Name y py] kk tp] value env = pure none)
    (hd : C.A.handled = none) (hk : env.scope.kind = .function) (hlx : env.kindOf x = some .local) (hly : env.kindOf y = some .local) (hL : env.locals = C.L)
    (h : Ev C env value σ fun v σ₁ => ∃ t a b, v = .ref t ∧ σ₁.H t = some (.tup [a, b]) ∧ Φ .next ⟨putM (putM σ₁.m x a) y b, σ₁.H⟩) : Ex C env (.Assign [.Tuple [.Name x px, .Name y py] kk tp] value pos) σ Φ := fun s S =>
  Assign_Tuple (Tr.run h S fun v σ₁ h₁ k₁ S₁ ⟨t, a, b, q, ht, p₁⟩ => Tr.run (tr_assign2 (Ψ := fun _ σ' => Φ .next σ') hd hk hlx hly hL q ht p₁) S₁ fun _ σ₂ h₂ k₂ S₂ p₂ => ⟨σ₂, h₂, k₂, rfl, S₂, p₂⟩) hs hw
/-- two names from a written pair: stored from behind -/
theorem Ex.assign2s {x y : Str} {px py tp : Pos} {kk : Nat} (hs : swapsWithSole [.Tuple [.Name x px, .Name y py] kk tp] value pos.line env = pure false) (hw : swappedStores [.Tuple [.Name x px, .Name y py] kk tp] value env = pure (some [x, y]))
    (hd : C.A.handled = none) 
    (h : Ev C env value σ fun v σ₁ => ∃ t a b, v = .ref t ∧ σ₁.H t = some (.tup [a, b]) ∧ ∀ va vb, er va = a → er vb = b → Tr C (storeName env y vb) σ₁ fun _ σ₂ => Tr C (storeName env x va) σ₂ fun _ σ₃ => Φ .next σ₃) : Ex C env (.Assign [.Tuple [.Name x px, .Name y py] kk tp] value pos) σ Φ := fun s S => by
  refine Assign_Tuple_swapped (names := [x, y]) (Tr.run h S fun v σ₁ h₁ k₁ S₁ ⟨t, a, b, q, ht, p₁⟩ => ?_) hs hw
  rw [er_ref q]
  obtain ⟨vs', hT, em⟩ := tup_is S₁ ht
  obtain ⟨va, vb, rfl, e1, e2⟩ := map_er2 em
  refine unpackItems_tuple (items := #[va, vb]) hd hT fun h' he => ?_
  have S₂ := S₁.all (ext_size he)
  refine assignInOrder_cons (wpAny_bindName (Tr.run (s := { s with heap := h', toks := k₁ }) (p₁ va vb e1 e2) S₂ fun _ σ₃ h₃ k₃ S₃ p₃ => ?_))
  refine assignInOrder_cons (wpAny_bindName (Tr.run p₃ S₃ fun _ σ₄ h₄ k₄ S₄ p₄ => assignInOrder_nil ⟨σ₄, h₄, k₄, rfl, S₄, p₄⟩))
end

/-! Comprehensions -/
section
variable {C : Cx} {env : Env} {σ : St} {Φ : Value → St → Prop} {pos : Pos} {K : Frag} {p : Program} {loose : List Str}
def CompElt (C : Cx) (env : Env) (elt : Expr) : List Expr → St → (Option Value → St → Prop) → Prop
  | [], σ, Ψ => Ev C env elt σ fun v σ' => Ψ (some v) σ'
  | c :: _, σ, Ψ => It C env c σ fun b σ' => if b then Ev C env elt σ' fun v σ'' => Ψ (some v) σ'' else Ψ none σ'
theorem Ev.comp (G : Ground0 K p loose C.b) (hd : C.A.handled = none) {elt iter : Expr} {x : Str} {px : Pos} {ifs : List Expr} {scope : Scope} {cl : List (Str × Addr)} (hifs : ifs.length ≤ 1)
    (hclos : closureFor scope env = pure cl) (hcell : ∀ y ∈ scope.names, y.2 ≠ .cell) (hkind : scope.kind = .function) (hnames : ∀ y ∈ scope.names, y.2 = .local → scope.names.lookup y.1 = some .local) (hx : scope.names.lookup x = some .local)
    (h : Ev C env iter σ fun xv σ₁ => ∃ a vals st src, xv = .ref a ∧ IterOver C vals st src ∧ src σ₁.H ∧ MakesIter C (.ref a) σ₁ (st 0) ∧ vals.length ≤ sizeLine ∧ ∃ J : Nat → List Value → St → Prop, J 0 [] ⟨fun _ => none, σ₁.H⟩ ∧ (∀ i acc σ', J i acc σ' → src σ'.H) ∧
      (∀ b L F i v acc σ', Ground0 K p loose b → vals[i]? = some v → J i acc σ' → CompElt { C with b := b, L := L, F := F } (compEnvC scope cl L env) elt ifs ⟨putM σ'.m x v, σ'.H⟩ fun r σ'' => match r with | some w => J (i + 1) (acc ++ [w]) σ'' | none => J (i + 1) acc σ'') ∧
      ∀ acc σ', J vals.length acc σ' → ∀ n, σ'.H n = none → Φ (.ref n) ⟨σ₁.m, upd σ'.H n (.list acc)⟩)
    (hs : ∀ x, foldedSetIterable iter env x = pure x := by intro _; rfl) : Ev C env (.ListComp elt [⟨.Name x px, iter, ifs, 0⟩] scope pos) σ Φ := fun s S => by
  rw [eval_ListComp]
  refine wpAny_comprehension_free (use := none) rfl hs hclos hkind hnames (Tr.run h S fun xv σ₁ h₁ k₁ S₁ ⟨a, vals, st, src, q, IO, hsrc, mk, hz, J, hJ0, hJs, turn, fin⟩ => ?_)
  rw [er_ref q]
  refine Tr.run (mk (fun v σ' => ∃ it, v = .ref it ∧ σ₁.H it = none ∧ σ' = ⟨σ₁.m, upd σ₁.H it (st 0)⟩) fun it hn => ⟨it, rfl, hn, rfl⟩) S₁ fun itv σ₂ h₂ k₂ S₂ ⟨it, qi, hn, q2⟩ => ?_
  subst q2
  rw [er_ref qi]
  obtain ⟨S₃, hnD⟩ := S₂.push (ob := { cls := .type "list", data := .seq ([] : List Value).toArray }) (o := .list []) rfl (fun _ _ => by simp) fun dd => ⟨[], 0, Heap.get?_push_size _ rfl, rfl⟩
  refine wpAny_newObj_type ?_ (by size_fits)
  generalize hDdef : h₂.objs.size = D at S₃ hnD
  have hDit : D ≠ it := fun z => by dsimp only at hnD; rw [z, upd_self] at hnD; cases hnD
  have hD1 : σ₁.H D = none := by dsimp only at hnD; rw [upd_ne hDit] at hnD; exact hnD
  generalize hh3 : h₂.push { cls := .type "list", data := .seq ([] : List Value).toArray } = h₃ at S₃
  refine wpAny_newFunctionEnv (s := { s with heap := h₃, toks := k₂ }) hcell (fun _ hy => (nomatch hy)) (fun h₄ hns hsb => ?_) hkind
  have hk₄ : ∀ y o, h₃.get? y = some o → h₄.get? y = some o := fun y o q => (hsb.2 y (Nat.ne_of_lt (Heap.lt_size q))).trans (Heap.get?_push_of_some _ q)
  have S₄ := S₃.enter (Nat.le_refl _) hk₄ hns
  have hm0 : (fun y => (([] : List (Str × Value)).reverse.lookup y).map er) = fun _ => none := rfl
  rw [hm0] at S₄
  have okG : Ground0 K p loose (ground C.b C.L h₃) := G.keeps fun y o => S₃.base
  -- the loop's state
  let F₀ : Nat → List Value → AH := fun i acc => orF (single D (.list acc)) (single it (st i))
  have F₀D : ∀ i acc, F₀ i acc D = some (.list acc) := fun i acc => orF_l single_at
  have F₀I : ∀ i acc, F₀ i acc it = some (st i) := fun i acc => by show (single D (.list acc) it).or (single it (st i) it) = _; simp [single, Ne.symm hDit]
  have dis : ∀ {H : AH} {i j acc acc'}, Disj H (F₀ i acc) → Disj H (F₀ j acc') := fun {H i j acc acc'} d y => by
    rcases d y with d | d
    · exact .inl d
    · refine .inr ?_
      have d' : (single D (.list acc) y).or (single it (st i) y) = none := d
      show (single D (.list acc') y).or (single it (st j) y) = none
      unfold single at d' ⊢
      by_cases h1 : y = D
      · rw [if_pos h1] at d'; cases d'
      · by_cases h2 : y = it
        · rw [if_neg h1, if_pos h2] at d'; cases d'
        · simp [h1, h2]
  have atn : ∀ {H : AH} {i acc}, Disj H (F₀ i acc) → H D = none ∧ H it = none := fun {H i acc} d => ⟨(d D).resolve_right (by rw [F₀D]; simp), (d it).resolve_right (by rw [F₀I]; simp)⟩
  have form : ∀ {H : AH} {i acc}, H D = none → H it = none → Disj H (F₀ i acc) := fun {H i acc} h1 h2 y => by
    by_cases z1 : y = D
    · subst z1; exact .inl h1
    · by_cases z2 : y = it
      · subst z2; exact .inl h2
      · refine .inr ?_
        show (single D (.list acc) y).or (single it (st i) y) = none
        simp [single, z1, z2]
  have updI : ∀ {H : AH} {i j acc}, H it = none → upd (orF H (F₀ i acc)) it (st j) = orF H (F₀ j acc) := fun {H i j acc} h2 => by
    funext y
    by_cases z2 : y = it
    · subst z2; rw [upd_self]; show _ = (H y).or _; rw [h2]; exact (F₀I j acc).symm
    · rw [upd_ne z2]
      show (H y).or ((single D (.list acc) y).or (single it (st i) y)) = (H y).or ((single D (.list acc) y).or (single it (st j) y))
      simp [single, z2]
  have updD : ∀ {H : AH} {i acc acc'}, H D = none → upd (orF H (F₀ i acc)) D (.list acc') = orF H (F₀ i acc') := fun {H i acc acc'} h2 => by
    funext y
    by_cases z2 : y = D
    · subst z2; rw [upd_self]; show _ = (H y).or _; rw [h2]; exact (F₀D i acc').symm
    · rw [upd_ne z2]
      show (H y).or ((single D (.list acc) y).or (single it (st i) y)) = (H y).or ((single D (.list acc') y).or (single it (st i) y))
      simp [single, z2]
  let C' : Cx := { C with b := ground C.b C.L h₃, L := h₃.objs.size }
  let cenv := compEnvC scope cl h₃.objs.size env
  have S₄' : Sat C'.b C'.L C'.F h₄ ⟨fun _ => none, orF σ₁.H (F₀ 0 [])⟩ := by
    have : orF σ₁.H (F₀ 0 []) = upd (upd σ₁.H it (st 0)) D (.list []) := by
      funext y
      by_cases z1 : y = D
      · subst z1; rw [upd_self]; show (σ₁.H y).or _ = _; rw [hD1]; exact F₀D 0 []
      · rw [upd_ne z1]
        by_cases z2 : y = it
        · subst z2; rw [upd_self]; show (σ₁.H y).or _ = _; rw [hn]; exact F₀I 0 []
        · rw [upd_ne z2]
          show (σ₁.H y).or ((single D (.list []) y).or (single it (st 0) y)) = σ₁.H y
          simp [single, z1, z2]
    rw [this]; exact S₄
  have loop : ∀ s' : Shared, (∃ h' tk', s' = { s with heap := h', toks := tk' } ∧ Sat C'.b C'.L C'.F h' ⟨fun _ => none, orF σ₁.H (F₀ 0 [])⟩) →
      codeAny (model C.prog C.w) C.A (.compLoop (.ListComp elt [⟨.Name x px, iter, ifs, 0⟩] scope pos) 0 (.ref it) (.ref D) cenv)
        (compPost (model C.prog C.w) C.A (fun _ _ => False) none (fun a s' => ∃ σ' h tk, s' = { s with heap := h, toks := tk } ∧ Sat C.b C.L C.F h σ' ∧ (fun v σ' => Φ (er v) σ') a σ') (.ref D) cenv.locals) s' := by
    rintro s' ⟨h', tk', rfl, S'⟩
    refine codeAny_compLoop_tests (fun n s' => ∃ i acc σ' h' tk', n = vals.length - i ∧ i ≤ vals.length ∧ acc.length ≤ i ∧ J i acc σ' ∧ Disj σ'.H (F₀ i acc) ∧ s' = { s with heap := h', toks := tk' } ∧ Sat C'.b C'.L C'.F h' ⟨σ'.m, orF σ'.H (F₀ i acc)⟩) ?_ _
      ⟨0, [], ⟨fun _ => none, σ₁.H⟩, h', tk', rfl, Nat.zero_le _, Nat.le_refl _, hJ0, form hD1 hn, rfl, S'⟩
    rintro n s' ⟨i, acc, σ', h', tk', rfl, hi, hacc, hJ, hdis, rfl, S'⟩
    obtain ⟨hD', hI'⟩ := atn hdis
    have hsr : src (orF σ'.H (F₀ i acc)) := IO.mono _ _ (fun y o _ q => orF_l q) (hJs _ _ _ hJ)
    by_cases hlt : i < vals.length
    · have hv : vals[i]? = some vals[i] := by simp [hlt]
      refine Tr.run (C := C') (IO.next C'.b C'.L C'.F i ⟨σ'.m, orF σ'.H (F₀ i acc)⟩ it vals[i] (fun r σ'' => r = some vals[i] ∧ σ'' = ⟨σ'.m, orF σ'.H (F₀ (i + 1) acc)⟩) (by show (σ'.H it).or _ = _; rw [hI']; exact F₀I i acc) hsr hv ⟨rfl, by rw [updI hI']⟩) S' fun r σ'' h'' tk'' S'' ⟨e1, e2⟩ => ?_
      subst e2
      cases r with
      | none => cases e1
      | some v =>
        dsimp only [Option.map] at e1
        have ev : er v = vals[i] := Option.some.inj e1
        have hkr : cenv.scope.kind = .function := hkind
        refine wpAny_assign_Name (Tr.run (C := C') (tr_store (env := cenv) (v := v) (Ψ := fun _ σ₃ => σ₃ = ⟨putM σ'.m x vals[i], orF σ'.H (F₀ (i + 1) acc)⟩) hkr (lookup_relabel_local hx) rfl (by rw [ev])) S'' fun _ σ₃ h₃' tk₃ S₃' e3 => ?_)
        subst e3
        have B := turn (ground C.b C.L h₃) h₃.objs.size (orF (F₀ (i + 1) acc) C.F) i vals[i] acc σ' okG hv hJ
        have dis' : Disj σ'.H (F₀ (i + 1) acc) := dis hdis
        -- what stands behind a turn
        have next : ∀ (acc' : List Value) (σ₅ : St) (H₅ : AH) h₅ tk₅, acc'.length ≤ i + 1 → σ₅.H = orF H₅ (F₀ (i + 1) acc') → Disj H₅ (F₀ (i + 1) acc') → J (i + 1) acc' ⟨σ₅.m, H₅⟩ → Sat C'.b C'.L C'.F h₅ σ₅ →
            ∃ m, m < vals.length - i ∧ ∃ i acc σ' h' tk', m = vals.length - i ∧ i ≤ vals.length ∧ acc.length ≤ i ∧ J i acc σ' ∧ Disj σ'.H (F₀ i acc) ∧ ({ s with heap := h₅, toks := tk₅ } : Shared) = { s with heap := h', toks := tk' } ∧ Sat C'.b C'.L C'.F h' ⟨σ'.m, orF σ'.H (F₀ i acc)⟩ :=
          fun acc' σ₅ H₅ h₅ tk₅ hl e5 d5 j5 S₅ => ⟨vals.length - (i + 1), by omega, i + 1, acc', ⟨σ₅.m, H₅⟩, h₅, tk₅, rfl, hlt, hl, j5, d5, rfl, by
            have : σ₅ = ⟨σ₅.m, orF H₅ (F₀ (i + 1) acc')⟩ := by cases σ₅; cases e5; rfl
            rw [← this]; exact S₅⟩
        have app : ∀ (xv : Value) (σ₄ : St) (H₄ : AH) h₄' tk₄ E', σ₄.H = orF H₄ (F₀ (i + 1) acc) → Disj H₄ (F₀ (i + 1) acc) → J (i + 1) (acc ++ [er xv]) ⟨σ₄.m, H₄⟩ → Sat C'.b C'.L C'.F h₄' σ₄ →
            wpAny (model C.prog C.w) C.A (PySem.call (.builtin "list.append") [.ref D, xv]) (fun _ s₅ => ∃ m, m < vals.length - i ∧ ∃ i acc σ' h' tk', m = vals.length - i ∧ i ≤ vals.length ∧ acc.length ≤ i ∧ J i acc σ' ∧ Disj σ'.H (F₀ i acc) ∧ s₅ = { s with heap := h', toks := tk' } ∧ Sat C'.b C'.L C'.F h' ⟨σ'.m, orF σ'.H (F₀ i acc)⟩) E' { s with heap := h₄', toks := tk₄ } := fun xv σ₄ H₄ h₄' tk₄ E' e4 d4 j4 S₄'' => by
          have hat : σ₄.H D = some (.list acc) := by rw [e4]; show (H₄ D).or _ = _; rw [(atn d4).1]; exact F₀D _ _
          refine Tr.run (C := C') (CallTo.append (v := er xv) (Φ := fun _ σ₅ => σ₅ = ⟨σ₄.m, upd σ₄.H D (.list (acc ++ [er xv]))⟩) hat (by omega) rfl [.ref D, xv] (by rfl)) S₄'' fun _ σ₅ h₅ tk₅ S₅ e5 => ?_
          refine next (acc ++ [er xv]) σ₅ H₄ h₅ tk₅ (by rw [List.length_append, List.length_singleton]; omega) ?_ (dis d4) ?_ S₅
          · rw [e5]; dsimp only; rw [e4, updD (atn d4).1]
          · rw [e5]; exact j4
        match ifs, hifs, B with
        | [], _, B =>
          refine wpAny_tests_nil ?_
          rw [if_pos rfl]
          refine Tr.run (C := C') (Tr.frame dis' B) S₃' fun xv σ₄ h₄' tk₄ S₄'' ⟨H₄, e4, d4, j4⟩ => ?_
          exact app xv σ₄ H₄ h₄' tk₄ _ e4 d4 j4 S₄''
        | [c], _, B =>
          refine wpAny_tests_one (Tr.run (C := C') (Tr.frame dis' B) S₃' fun ok σ₄ h₄' tk₄ S₄'' ⟨H₄, e4, d4, j4⟩ => ?_)
          cases ok with
          | false =>
            rw [if_neg Bool.false_ne_true]
            exact next acc σ₄ H₄ h₄' tk₄ (by omega) e4 d4 j4 S₄''
          | true =>
            rw [if_pos rfl]
            have S₄₅ : Sat C'.b C'.L C'.F h₄' ⟨σ₄.m, orF H₄ (F₀ (i + 1) acc)⟩ := by
              have : σ₄ = ⟨σ₄.m, orF H₄ (F₀ (i + 1) acc)⟩ := by cases σ₄; cases e4; rfl
              rw [← this]; exact S₄''
            refine Tr.run (C := C') (Tr.frame d4 j4) S₄₅ fun xv σ₅ h₅ tk₅ S₅ ⟨H₅, e5, d5, j5⟩ => ?_
            exact app xv σ₅ H₅ h₅ tk₅ _ e5 d5 j5 S₅
    · have hi' : i = vals.length := by omega
      subst hi'
      refine Tr.run (C := C') (IO.done C'.b C'.L C'.F ⟨σ'.m, orF σ'.H (F₀ vals.length acc)⟩ it (fun r σ'' => r = none ∧ σ'' = ⟨σ'.m, upd σ'.H D (.list acc)⟩) (by show (σ'.H it).or _ = _; rw [hI']; exact F₀I _ acc) hsr ⟨rfl, ?_⟩) S' fun r σ'' h'' tk'' S'' ⟨e1, e2⟩ => ?_
      · congr 1
        funext y
        unfold dropA
        by_cases z1 : y = it
        · subst z1; rw [if_pos rfl, upd_ne (Ne.symm hDit), hI']
        · rw [if_neg z1]
          by_cases z2 : y = D
          · subst z2; rw [upd_self]; show (σ'.H y).or _ = _; rw [hD']; exact F₀D _ _
          · rw [upd_ne z2]
            show (σ'.H y).or ((single D (.list acc) y).or (single it (st vals.length) y)) = σ'.H y
            simp [single, z1, z2]
      · subst e2
        cases r with
        | some v => cases e1
        | none =>
          obtain ⟨m₂, _, F₂, _, _, _⟩ := id S''.ex
          refine ⟨m₂, F₂.ns, fun h₆ hs₆ => ?_⟩
          have S₆ := S₃.leave' S'' hs₆
          exact ⟨⟨σ₁.m, upd σ'.H D (.list acc)⟩, h₆, tk'', rfl, S₆, fin acc σ' hJ D hD'⟩
  refine codeAny_compStart_list (loop _ ⟨h₄, _, rfl, S₄'⟩) ?_
  refine Tr.run (C := C') (IO.self C'.b C'.L C'.F 0 ⟨fun _ => none, orF σ₁.H (F₀ 0 [])⟩ it (fun v σ' => v = .ref it ∧ σ' = ⟨fun _ => none, orF σ₁.H (F₀ 0 [])⟩) (by show (σ₁.H it).or _ = _; rw [hn]; exact F₀I 0 []) ⟨rfl, rfl⟩) S₄' fun v σ' h' tk' S' ⟨e1, e2⟩ => ?_
  subst e2
  rw [er_ref e1]
  exact loop _ ⟨h', tk', rfl, S'⟩
end
end Mine
end
section
set_option maxRecDepth 100000
set_option Elab.async false
set_option linter.unusedVariables false
namespace Mine
open PySem PySem.W PySem.Calls PyProof.Rows
section
variable {K : Frag} {fd : FuncData}
def BindOk (K : Frag) (fd : FuncData) (vs : List Value) (ab : List (Str × Value)) : Prop :=
  ∀ vs' : List Value, vs'.map er = vs → ∀ s : Shared, K.In s.heap → ∃ binds, BindsTo s fd ⟨vs', []⟩ binds ∧ binds.map (fun y => (y.1, er y.2)) = ab ∧ ∀ y ∈ binds, fd.scope.names.lookup y.1 = some .local
theorem bind1 {n1 : Str} {a : Value} (hb : ∀ x, bindArgs fd ⟨[x], []⟩ = pure [(n1, x)]) (h1 : fd.scope.names.lookup n1 = some .local) : BindOk K fd [a] [(n1, a)] := fun vs' e s X => by
  obtain ⟨x, rfl, e1⟩ := map_er1 e
  exact ⟨_, BindsTo.of_eq (hb x), by simp [e1], fun y hy => by simp at hy; subst hy; exact h1⟩
theorem bind2 {n1 n2 : Str} {a b : Value} (hb : ∀ x y, bindArgs fd ⟨[x, y], []⟩ = pure [(n1, x), (n2, y)]) (h1 : fd.scope.names.lookup n1 = some .local) (h2 : fd.scope.names.lookup n2 = some .local) : BindOk K fd [a, b] [(n1, a), (n2, b)] := fun vs' e s X => by
  obtain ⟨x, y, rfl, e1, e2⟩ := map_er2 e
  exact ⟨_, BindsTo.of_eq (hb x y), by simp [e1, e2], fun y hy => by simp at hy; rcases hy with rfl | rfl; exact h1; exact h2⟩
theorem bind3 {n1 n2 n3 : Str} {a b c : Value} (hb : ∀ x y z, bindArgs fd ⟨[x, y, z], []⟩ = pure [(n1, x), (n2, y), (n3, z)]) (h1 : fd.scope.names.lookup n1 = some .local) (h2 : fd.scope.names.lookup n2 = some .local) (h3 : fd.scope.names.lookup n3 = some .local) : BindOk K fd [a, b, c] [(n1, a), (n2, b), (n3, c)] := fun vs' e s X => by
  obtain ⟨x, y, z, rfl, e1, e2, e3⟩ := map_er3 e
  exact ⟨_, BindsTo.of_eq (hb x y z), by simp [e1, e2, e3], fun y hy => by simp at hy; rcases hy with rfl | rfl | rfl; exact h1; exact h2; exact h3⟩
end
/-! What is known of a block's names -/
structure EnvIs (env : Env) (L : Addr) (names : List (Str × NameKind)) (cl : List (Str × Addr)) : Prop where
  kind : env.scope.kind = .function
  loc : env.locals = L
  glob : env.globals = mainGlobals
  blt : env.builtins = builtinsNs
  cells : env.cells = cl
  kinds : ∀ x k, names.lookup x = some k → env.kindOf x = some k
theorem EnvIs.quiet {env : Env} {L : Addr} {names : List (Str × NameKind)} {cl : List (Str × Addr)} (E : EnvIs env L names cl) : interactive env = false := by unfold interactive; rw [E.kind]; rfl
section
variable {C : Cx} {env : Env} {σ : St} {v c : Value} {pos : Pos} {K : Frag} {p : Program} {loose : List Str} {x : Str} {names : List (Str × NameKind)} {cl : List (Str × Addr)}
theorem Pe.l (E : EnvIs env C.L names cl) (hn : names.lookup x = some .local) (hv : σ.m x = some v) (hd : (x == ("__debug__" : Str)) = false) : Pe C env (.Name x pos) σ v := Pe.loc E.kind (E.kinds _ _ hn) E.loc hd hv
theorem Pe.ce {ca : Addr} (E : EnvIs env C.L names cl) (hn : names.lookup x = some .cell) (hc : cl.lookup x = some ca) (hv : σ.H ca = some (.cell v)) (hd : (x == ("__debug__" : Str)) = false) : Pe C env (.Name x pos) σ v :=
  Pe.cell E.kind (E.kinds _ _ hn) (E.cells ▸ hc) hd hv
theorem Pe.g {a : Addr} (E : EnvIs env C.L names cl) (G : Ground0 K p loose C.b) (hn : names.lookup x = some .globalImplicit) (hv : nsIn K mainGlobals x = some (some (.ref a))) (hd : (x == ("__debug__" : Str)) = false) : Pe C env (.Name x pos) σ (.ref a) :=
  Pe.glob G E.kind (E.kinds _ _ hn) E.glob hd hv
theorem Pe.b (E : EnvIs env C.L names cl) (G : Ground0 K p loose C.b) (hn : names.lookup x = some .globalImplicit) (he : nsIn K mainGlobals x = some none) (hv : bootBuiltins x = some v) (hne : x ≠ "__name__") (hd : (x == ("__debug__" : Str)) = false) : Pe C env (.Name x pos) σ (er v) :=
  Pe.built G E.kind (E.kinds _ _ hn) E.glob E.blt hd he hv hne
end
/-! blocks of comprehensions -/
theorem lookup_relabel {scope : Scope} {env : Env} {x : Str} {k : NameKind} (h : scope.names.lookup x = some k) : (relabel scope env).names.lookup x = some (if (k == .free && env.scope.kind == .function && env.kindOf x == some .cell) = true then .cell else k) := by
  have hf : (relabel scope env).names = scope.names.map fun y => (y.1, if (y.2 == .free && env.scope.kind == .function && env.kindOf y.1 == some .cell) = true then .cell else y.2) := by
    unfold relabel
    dsimp only
    congr 1
    funext y
    obtain ⟨n, k⟩ := y
    dsimp only
    split <;> rfl
  rw [hf]
  generalize scope.names = l at h
  induction l with
  | nil => cases h
  | cons y r ih =>
    obtain ⟨n, k'⟩ := y
    simp only [List.lookup_cons, List.map_cons] at h ⊢
    cases hx : x == n with
    | true =>
      rw [hx] at h
      cases h
      have : x = n := by simpa using hx
      subst this
      rfl
    | false =>
      rw [hx] at h
      exact ih h
/-- kinds within a comprehension's block -/
theorem EnvIs.comp {env : Env} {L L' : Addr} {names : List (Str × NameKind)} {cl cl' : List (Str × Addr)} {scope : Scope} (E : EnvIs env L names cl) (hk : scope.kind = .function) (names' : List (Str × NameKind))
    (h : ∀ x k, names'.lookup x = some k → (k ≠ .free ∧ scope.names.lookup x = some k) ∨ (k = .cell ∧ scope.names.lookup x = some .free ∧ names.lookup x = some .cell)) : EnvIs (compEnvC scope cl' L' env) L' names' cl' :=
  ⟨hk, rfl, E.glob, E.blt, rfl, fun x k hx => by
    show (relabel scope env).names.lookup x = some k
    rcases h x k hx with ⟨h1, h2⟩ | ⟨rfl, h2, h3⟩
    · rw [lookup_relabel h2]
      have : (k == NameKind.free) = false := by simpa using h1
      simp [this]
    · rw [lookup_relabel h2, E.kinds _ _ h3, E.kind]
      rfl⟩

/-- What a def is known to be. -/
structure FnIs (K : Frag) (fa : Addr) (fd : FuncData) (body : List Stmt) (names : List (Str × NameKind)) (cells : Nat → List (Str × Addr)) : Prop where
  ho : ∃ oc od osl, K.lookup fa = some ⟨oc, od, .func fd, osl⟩
  hcd : codeIn K fd.code fd.qualname = true
  hbody : fd.body = .stmts body
  hg : fd.globals = mainGlobals
  hcl : fd.closure = []
  hb : fd.builtins = builtinsNs
  hn : (names.all fun x => fd.scope.names.lookup x.1 == some x.2) = true
  hcells : ∀ n, cellsFrom n fd.scope.names [] = cells n
  hco : fd.scope.isCoroutine = false
  hgen : fd.scope.isGenerator = false
  hk : fd.scope.kind = .function
theorem mem_of_lookup {α β : Type} [BEq α] [LawfulBEq α] {x : α} {k : β} : ∀ {l : List (α × β)}, l.lookup x = some k → (x, k) ∈ l
  | [], h => nomatch h
  | y :: r, h => by
    obtain ⟨a, b⟩ := y
    rw [List.lookup_cons] at h
    cases hx : x == a with
    | true => rw [hx] at h; cases h; rw [eq_of_beq hx]; exact .head _
    | false => rw [hx] at h; exact .tail _ (mem_of_lookup h)
section
variable {K : Frag} {fd : FuncData}
theorem FnIs.env {fa : Addr} {body : List Stmt} {names : List (Str × NameKind)} {cells : Nat → List (Str × Addr)} (I : FnIs K fa fd body names cells) (cl : List (Str × Addr)) (L : Addr) : EnvIs (newEnv fd.scope L fd.globals cl (fd.qualname ++ ".<locals>.") (some fa) fd.code none fd.builtins) L names cl :=
  ⟨I.hk, rfl, I.hg, I.hb, rfl, fun x k h => by
    show fd.scope.names.lookup x = some k
    simpa using List.all_eq_true.mp I.hn _ (mem_of_lookup h)⟩
theorem FnIs.call {C : Cx} {p : Program} {loose : List Str} {fa : Addr} {body : List Stmt} {names : List (Str × NameKind)} {vs : List Value} {ab : List (Str × Value)} {σ : St} {Φ : Value → St → Prop} {n : Nat} (I : FnIs K fa fd body names (fun _ => [])) (G : Ground0 K p loose C.b) (ok : OkA C.A (n + 1)) (hb : BindOk K fd vs ab)
    (h : ∀ b L env, Ground0 K p loose b → OkA (C.A.deeper env) n → EnvIs env L names [] → Exs (C.call env b L) env body ⟨fun x => ab.reverse.lookup x, σ.H⟩ fun fl σ' => Φ (retv fl) ⟨σ.m, σ'.H⟩) : CodeTo C (.ref fa) vs σ Φ := by
  obtain ⟨oc, od, osl, ho⟩ := I.ho
  refine CodeTo.def G ok ho I.hcd I.hbody hb (fun x hx e => ?_) (fun b L Gb okb => h b L _ Gb okb (I.hcl ▸ I.env fd.closure L)) I.hco I.hgen I.hk
  have hc : ∀ (l : List (Str × NameKind)) n acc, cellsFrom n l acc = [] → x ∉ l := by
    intro l
    induction l with
    | nil => intro _ _ _ h; cases h
    | cons y r ih =>
      intro n acc h hm
      obtain ⟨y1, y2⟩ := y
      have len : ∀ (l : List (Str × NameKind)) n (acc : List (Str × Addr)), acc.length ≤ (cellsFrom n l acc).length := by
        intro l
        induction l with
        | nil => intro _ _; exact Nat.le_refl _
        | cons z r ih =>
          intro n acc
          unfold cellsFrom
          split
          · have := ih (n + 1) ((z.1, n) :: acc)
            rw [List.length_cons] at this
            omega
          · exact ih _ _
      unfold cellsFrom at h
      split at h
      · have := len r (n + 1) ((y1, n) :: acc)
        rw [h] at this
        simp at this
      · rename_i hne
        rcases List.mem_cons.mp hm with q | q
        · have e' : y2 = .cell := by rw [q] at e; exact e
          exact absurd (by rw [e']; rfl) hne
        · exact ih _ _ h q
  exact hc _ _ _ (I.hcells 0) hx
/-- arguments that go into cells -/
def abL (names : List (Str × NameKind)) (ab : List (Str × Value)) : List (Str × Value) := ab.filter fun y => names.lookup y.1 == some .local
def abC (names : List (Str × NameKind)) (ab : List (Str × Value)) : List (Str × Value) := ab.filter fun y => !(names.lookup y.1 == some .local)
theorem bindL_at {ko : Str → Option NameKind} {names : List (Str × NameKind)} : ∀ (binds : List (Str × Value)) (m : Str → Option Value), (∀ y ∈ binds, ∃ k, names.lookup y.1 = some k ∧ ko y.1 = some k) → ∀ x,
    (bindL ko binds m x).map er = ((abL names (binds.map fun y => (y.1, er y.2))).reverse.lookup x).or ((m x).map er) ∧ (bindC ko binds m x).map er = ((abC names (binds.map fun y => (y.1, er y.2))).reverse.lookup x).or ((m x).map er)
  | [], m, _, x => ⟨rfl, rfl⟩
  | (n, v) :: r, m, h, x => by
    obtain ⟨k, h1, h2⟩ := h (n, v) (.head _)
    have ih := fun m => bindL_at r m (fun y hy => h y (.tail _ hy)) x
    dsimp only at h1 h2
    have lk : ∀ (l : List (Str × Value)), (l ++ [(n, er v)]).lookup x = (l.lookup x).or (if x = n then some (er v) else none) := fun l => by
      rw [List.lookup_append]
      congr 1
      by_cases q : x = n
      · subst q; simp [List.lookup_cons]
      · have : (x == n) = false := by simpa using q
        simp [List.lookup_cons, q, this]
    have st : ∀ m : Str → Option Value, (if x = n then some (er v) else none).or ((m x).map er) = ((fun y => if y = n then some v else m y) x).map er := fun m => by
      by_cases q : x = n <;> simp [q]
    by_cases hk : k = .local
    · subst hk
      simp only [bindL, bindC, if_pos h2, abL, abC, List.map_cons, List.filter_cons, h1, beq_self_eq_true, if_true, Bool.not_true, Bool.false_eq_true, if_false, List.reverse_cons]
      refine ⟨?_, (ih m).2⟩
      rw [(ih _).1, lk, Option.or_assoc, st]; rfl
    · have h2' : ¬ ko n = some .local := by rw [h2]; simpa using hk
      have hb : (some k == some NameKind.local) = false := by simpa using hk
      simp only [bindL, bindC, if_neg h2', abL, abC, List.map_cons, List.filter_cons, h1, hb, Bool.not_false, if_true, Bool.false_eq_true, if_false, List.reverse_cons]
      refine ⟨(ih m).1, ?_⟩
      rw [(ih _).2, lk, Option.or_assoc, st]; rfl
def BindOkC (K : Frag) (fd : FuncData) (vs : List Value) (ab : List (Str × Value)) : Prop :=
  ∀ vs' : List Value, vs'.map er = vs → ∀ s : Shared, K.In s.heap → ∃ binds, BindsTo s fd ⟨vs', []⟩ binds ∧ binds.map (fun y => (y.1, er y.2)) = ab
theorem bindC1 {n1 : Str} {a : Value} (hb : ∀ x, bindArgs fd ⟨[x], []⟩ = pure [(n1, x)]) : BindOkC K fd [a] [(n1, a)] := fun vs' e s X => by
  obtain ⟨x, rfl, e1⟩ := map_er1 e
  exact ⟨_, BindsTo.of_eq (hb x), by simp [e1]⟩
theorem bindC3 {n1 n2 n3 : Str} {a b c : Value} (hb : ∀ x y z, bindArgs fd ⟨[x, y, z], []⟩ = pure [(n1, x), (n2, y), (n3, z)]) : BindOkC K fd [a, b, c] [(n1, a), (n2, b), (n3, c)] := fun vs' e s X => by
  obtain ⟨x, y, z, rfl, e1, e2, e3⟩ := map_er3 e
  exact ⟨_, BindsTo.of_eq (hb x y z), by simp [e1, e2, e3]⟩
theorem FnIs.callC {C : Cx} {p : Program} {loose : List Str} {fa : Addr} {body : List Stmt} {names : List (Str × NameKind)} {cells : Nat → List (Str × Addr)} {vs : List Value} {ab : List (Str × Value)} {σ : St} {Φ : Value → St → Prop} {n : Nat} (I : FnIs K fa fd body names cells) (G : Ground0 K p loose C.b) (ok : OkA C.A (n + 1)) (hb : BindOkC K fd vs ab)
    (hab : (ab.all fun y => names.lookup y.1 == some .local || names.lookup y.1 == some .cell) = true) (hnd : ((cells 0).map (·.1)).Nodup)
    (h : ∀ b L env H₁, Ground0 K p loose b → OkA (C.A.deeper env) n → EnvIs env L names (cells (L + 1)) → Same σ.H H₁ → (∀ n c, (n, c) ∈ cells (L + 1) → σ.H c = none ∧ H₁ c = some (match (abC names ab).reverse.lookup n with | none => .hole | some v => .cell v)) →
      (∀ x, σ.H x = none → (∀ n c, (n, c) ∈ cells (L + 1) → x ≠ c) → H₁ x = none) →
      Exs (C.call env b L) env body ⟨fun x => (abL names ab).reverse.lookup x, H₁⟩ fun fl σ' => Φ (retv fl) ⟨σ.m, σ'.H⟩) : CodeTo C (.ref fa) vs σ Φ := by
  obtain ⟨oc, od, osl, ho⟩ := I.ho
  have E := fun L => I.env (cells (L + 1)) L
  obtain ⟨h1, h2, h3, h4, h5, h6, h7, h8, h9, h10, h11⟩ := I
  obtain ⟨name, qual, params, fbody, scope, globals, closure, dV, kV, doc, pm, an, cdv, ct, blt⟩ := fd
  dsimp only at h2 h3 h4 h5 h6 h7 h8 h9 h10 h11
  subst h3 h4 h5 h6
  have kof : ∀ y ∈ ab, ∃ k, names.lookup y.1 = some k ∧ scope.names.lookup y.1 = some k ∧ (k = .local ∨ k = .cell) := fun y hy => by
    have := List.all_eq_true.mp hab y hy
    rcases Bool.or_eq_true_iff.mp this with q | q
    · have q' : names.lookup y.1 = some .local := by simpa using q
      exact ⟨_, q', by simpa using List.all_eq_true.mp h7 _ (mem_of_lookup q'), .inl rfl⟩
    · have q' : names.lookup y.1 = some .cell := by simpa using q
      exact ⟨_, q', by simpa using List.all_eq_true.mp h7 _ (mem_of_lookup q'), .inr rfl⟩
  refine CodeTo.defC (name := name) (qual := qual) (params := params) (scope := scope) (dV := dV) (kV := kV) (doc := doc) (pm := pm) (cdv := cdv) (ct := ct) (an := an) (m₀ := fun x => (abL names ab).reverse.lookup x) (c₀ := fun x => (abC names ab).reverse.lookup x) G ok ho h2 (fun vs' e s X => ?_) ((h8 0).symm ▸ hnd) (fun b L H₁ Gb okb k₁ hc hn => ?_) h9 h10 h11
  · obtain ⟨binds, b1, b2⟩ := hb vs' e s X
    have kof' : ∀ y ∈ binds, ∃ k, names.lookup y.1 = some k ∧ scope.names.lookup y.1 = some k ∧ (k = .local ∨ k = .cell) := fun y hy => kof (y.1, er y.2) (b2 ▸ List.mem_map.mpr ⟨y, hy, rfl⟩)
    refine ⟨binds, b1, List.all_eq_true.mpr fun y hy => ?_, fun L => ⟨fun x => ?_, fun x => ?_⟩⟩
    · obtain ⟨k, _, q, r⟩ := kof' y hy
      rcases r with rfl | rfl <;> simp [q]
    · have := (bindL_at (ko := (envX qual scope L fa cdv (cellsFrom (L + 1) scope.names [])).kindOf) binds (fun _ => none) (fun y hy => let ⟨k, q1, q2, _⟩ := kof' y hy; ⟨k, q1, q2⟩) x).1
      rw [this, b2]; simp
    · have := (bindL_at (ko := (envX qual scope L fa cdv (cellsFrom (L + 1) scope.names [])).kindOf) binds (fun _ => none) (fun y hy => let ⟨k, q1, q2, _⟩ := kof' y hy; ⟨k, q1, q2⟩) x).2
      rw [this, b2]; simp
  · rw [h8 (L + 1)] at hc hn okb ⊢
    exact h b L _ H₁ Gb okb (E L) k₁ hc hn
end
section
variable {C : Cx} {env : Env} {l r : Expr} {σ : St} {Φ : Value → St → Prop} {pos : Pos}
def TruthTo (C : Cx) (v : Value) (x : Bool) (σ : St) : Prop := ∀ v', er v' = v → Tr C (truthy v') σ fun b σ' => b = x ∧ σ' = σ
theorem TruthTo.bool {C : Cx} {x : Bool} {σ : St} : TruthTo C (.bool x) x σ := fun v' e s S => by rw [er_bool e]; exact wpAny_truthy_bool ⟨σ, s.heap, s.toks, rfl, S, rfl, rfl⟩
theorem Ev.and2 (h : Ev C env l σ fun v σ₁ => ∃ x, TruthTo C v x σ₁ ∧ if x then Ev C env r σ₁ Φ else Φ v σ₁) : Ev C env (.BoolOp .And [l, r] pos) σ Φ := fun s S =>
  wpAny_And2 (Tr.run h S fun v σ₁ h₁ k₁ S₁ ⟨x, t, p₁⟩ => Tr.run (t v rfl) S₁ fun b σ₂ h₂ k₂ S₂ ⟨e, e2⟩ => by
    subst e e2
    cases b
    · exact ⟨σ₂, h₂, k₂, rfl, S₂, p₁⟩
    · exact Tr.run p₁ S₂ fun v σ₂ h₂ k₂ S₂ p₂ => ⟨σ₂, h₂, k₂, rfl, S₂, p₂⟩)
theorem Pe.and2 {x y : Bool} (h1 : Pe C env l σ (.bool x)) (h2 : x = true → Pe C env r σ (.bool y)) : Pe C env (.BoolOp .And [l, r] pos) σ (.bool (x && y)) := by
  refine Ev.and2 (Φ := fun v' σ' => v' = .bool (x && y) ∧ σ' = σ) (Pe.ev h1 ?_)
  refine ⟨x, TruthTo.bool, ?_⟩
  cases x
  · exact ⟨rfl, rfl⟩
  · rw [if_pos rfl]; exact (h2 rfl).ev ⟨rfl, rfl⟩
end
end Mine
end
section
set_option maxRecDepth 100000
set_option Elab.async false
set_option linter.unusedVariables false
namespace Mine
open PySem PySem.W PySem.Calls PyProof.Rows

theorem len_small {α : Type} {l : List α} (h : Nat.ble l.length 1000 = true) : l.length ≤ sizeLine := Nat.le_trans (Nat.le_of_ble_eq_true h) (by decide)
theorem len_k {n : Nat} (h : n ≤ 100000) : n ≤ sizeLine := Nat.le_trans h (by decide)

/-! Comparisons that look into the heap -/
def CmpH (C : Cx) (op : CmpOp) (a b : Value) (σ : St) (r : Bool) : Prop := ∀ va vb, er va = a → er vb = b → Tr C (compareOp op va vb) σ fun v σ' => v = .bool r ∧ σ' = σ
theorem CmpTo.h {C : Cx} {op : CmpOp} {a b : Value} {σ : St} {r : Bool} (h : CmpTo C op a b r) : CmpH C op a b σ r := fun va vb ea eb s S => h va vb ea eb s _ _ fun k => ⟨σ, s.heap, k, rfl, S, rfl, rfl⟩
section
variable {C : Cx} {env : Env} {l r : Expr} {σ : St} {pos : Pos} {a b : Value}
theorem Ev.cmpH {Φ : Value → St → Prop} {op : CmpOp} (hm : behindInMarks op r = false) (h : Ev C env l σ fun a σ₁ => Ev C env r σ₁ fun b σ₂ => ∃ c, CmpH C op a b σ₂ c ∧ Φ (.bool c) σ₂) : Ev C env (.Compare l [op] [r] pos) σ Φ := fun s S =>
  wpAny_Compare1 (h.run S fun a σ₁ h₁ k₁ S₁ p₁ => p₁.run S₁ fun b σ₂ h₂ k₂ S₂ ⟨c, o, p₂⟩ => Tr.run (o _ _ rfl rfl) S₂ fun v σ₃ h₃ k₃ S₃ ⟨e, e2⟩ => ⟨σ₃, h₃, k₃, rfl, S₃, by subst e e2; exact p₂⟩) hm
theorem It.cmpH {Φ : Bool → St → Prop} {op : CmpOp} (hm : behindInMarks op r = false) (h : Ev C env l σ fun a σ₁ => Ev C env r σ₁ fun b σ₂ => ∃ c, CmpH C op a b σ₂ c ∧ Φ c σ₂) : It C env (.Compare l [op] [r] pos) σ Φ := fun s S =>
  wpAny_isTrue_Compare1 (h.run S fun a σ₁ h₁ k₁ S₁ p₁ => p₁.run S₁ fun b σ₂ h₂ k₂ S₂ ⟨c, o, p₂⟩ => Tr.run (o _ _ rfl rfl) S₂ fun v σ₃ h₃ k₃ S₃ ⟨e, e2⟩ => by
    subst e e2
    exact wpAny_truthy_bool ⟨σ₃, h₃, k₃, rfl, S₃, p₂⟩) hm
theorem Pt.cmpH {op : CmpOp} {c : Bool} (hl : Pe C env l σ a) (hr : Pe C env r σ b) (h : CmpH C op a b σ c) (hm : behindInMarks op r = false) : Pt C env (.Compare l [op] [r] pos) σ c := It.cmpH hm (hl.ev (hr.ev ⟨c, h, rfl, rfl⟩))
end
section
variable {C : Cx} {σ : St}
theorem CmpTo.eqs {x y : Str} {t u : Tok} : CmpTo C .Eq (.str x t) (.str y u) (x == y) := fun va vb ha hb s Q E k => by
  obtain ⟨_, rfl⟩ := er_str ha; obtain ⟨_, rfl⟩ := er_str hb
  exact eq_str (k s.toks)
theorem CmpTo.nes {x y : Str} {t u : Tok} : CmpTo C .NotEq (.str x t) (.str y u) (x != y) := fun va vb ha hb s Q E k => by
  obtain ⟨_, rfl⟩ := er_str ha; obtain ⟨_, rfl⟩ := er_str hb
  exact ne_str (k s.toks)
theorem CmpTo.neb {x y : Bool} : CmpTo C .NotEq (.bool x) (.bool y) (x != y) := fun va vb ha hb s Q E k => by
  rw [er_bool ha, er_bool hb]
  exact ne_bool (k s.toks)

/-! Equal data -/
inductive DEq (H : AH) : Nat → Value → Value → Prop
  | int (n : Nat) (i : Int) (t u : Tok) : DEq H n (.int i t) (.int i u)
  | str (n : Nat) (x : Str) (t u : Tok) : DEq H n (.str x t) (.str x u)
  | none (n : Nat) : DEq H n .none .none
  | tup (n : Nat) (a b : Addr) (vs ws : List Value) : H a = some (.tup vs) → H b = some (.tup ws) → vs.length = ws.length → (∀ (i : Nat) (v w : Value), vs[i]? = some v → ws[i]? = some w → DEq H n v w) → DEq H (n + 1) (.ref a) (.ref b)
theorem tup_isT {b h : Heap} {L a : Addr} {F : AH} {σ : St} {vs : List Value} (S : Sat b L F h σ) (e : σ.H a = some (.tup vs)) : ∃ vs', h.IsTuple a (List.toArray vs') ∧ vs'.map er = vs := by
  obtain ⟨dd, vs', n, h1, h2⟩ := S.obj e
  exact ⟨vs', ⟨_, h1, rfl, n, rfl⟩, h2⟩
theorem getE {vs' : List Value} {vs : List Value} (e : vs'.map er = vs) {j : Nat} (hj : j < vs'.toArray.size) : vs[j]? = some (er vs'.toArray[j]) := by
  subst e
  have : j < vs'.length := by simpa using hj
  simp [List.getElem?_map, this]
theorem DEq.tupsAt {b₀ : Heap} {L : Addr} {F : AH} {A : Around} {s : Shared} {a b : Addr} {vs ws : List Value} (S : Sat b₀ L F s.heap σ) (ha : σ.H a = some (.tup vs)) (hb : σ.H b = some (.tup ws)) (hlen : vs.length = ws.length) 
    (ih : ∀ (i : Nat) (v w : Value), vs[i]? = some v → ws[i]? = some w → ∀ y x, er y = v → er x = w → SeqAt.EqAt A.in1 s y x true) : ∃ vs' ws', s.heap.IsTuple a (List.toArray vs') ∧ s.heap.IsTuple b (List.toArray ws') ∧ vs'.toArray.size = ws'.toArray.size ∧
      ∀ j (h1 : j < vs'.toArray.size) (h2 : j < ws'.toArray.size), SeqAt.EqAt A.in1 s vs'.toArray[j] ws'.toArray[j] ((fun _ => true) j) := by
  obtain ⟨vs', t1, e1⟩ := tup_isT S ha
  obtain ⟨ws', t2, e2⟩ := tup_isT S hb
  refine ⟨vs', ws', t1, t2, ?_, fun j h1 h2 => ih j _ _ (getE e1 h1) (getE e2 h2) _ _ rfl rfl⟩
  rw [List.size_toArray, List.size_toArray]
  rw [← List.length_map (f := er) (as := vs'), ← List.length_map (f := er) (as := ws'), e1, e2, hlen]
theorem all_true (n : Nat) : (List.range n).all (fun _ => true) = true := by simp
theorem DEq.at {b₀ : Heap} {L : Addr} {F : AH} {n : Nat} {v w : Value} (h : DEq σ.H n v w) : ∀ {A : Around} {s : Shared}, Sat b₀ L F s.heap σ → A.units + n < cLine → ∀ y x, er y = v → er x = w → SeqAt.EqAt A s y x true := by
  induction h with
  | int n i t u =>
    intro A s S hu y x ey ex
    obtain ⟨t, rfl⟩ := er_int ey; obtain ⟨u, rfl⟩ := er_int ex
    have := SeqAt.EqAt.int_int (A := A) (s := s) i t i u
    simpa using this
  | str n i t u =>
    intro A s S hu y x ey ex
    obtain ⟨t, rfl⟩ := er_str ey; obtain ⟨u, rfl⟩ := er_str ex
    have := SeqAt.EqAt.str_str (A := A) (s := s) i t i u
    simpa using this
  | none n =>
    intro A s S hu y x ey ex
    rw [er_none ey, er_none ex]
    exact SeqAt.EqAt.same _
  | tup n a b vs ws ha hb hlen _ ih =>
    intro A s S hu y x ey ex
    rw [er_ref ey, er_ref ex]
    by_cases hab : a = b
    · subst hab; exact SeqAt.EqAt.same _
    · obtain ⟨vs', ws', t1, t2, hs, he⟩ := DEq.tupsAt (A := A) S ha hb hlen fun i v w h1 h2 y x ey ex => ih i v w h1 h2 S (by show A.units + 1 + n < _; omega) y x ey ex
      have := SeqAt.RcAt.tuples t1 t2 (by omega) he
      rw [all_true, hs] at this
      exact SeqAt.EqAt.of_refs hab (by simpa using this)
theorem CmpH.neTup {n : Nat} {k : Nat} (ok : OkA C.A k) (hk : n < 10 * k) {a b : Addr} {vs ws : List Value} (ha : σ.H a = some (.tup vs)) (hb : σ.H b = some (.tup ws)) (hlen : vs.length = ws.length) (h : ∀ (i : Nat) (v w : Value), vs[i]? = some v → ws[i]? = some w → DEq σ.H n v w) :
    CmpH C .NotEq (.ref a) (.ref b) σ false := fun va vb ea eb s S => by
  rw [er_ref ea, er_ref eb]
  have hu := ok.un
  obtain ⟨vs', ws', t1, t2, hs, he⟩ := DEq.tupsAt (A := C.A) S ha hb hlen fun i v w h1 h2 y x ey ex => (h i v w h1 h2).at S (by show C.A.units + 1 + n < _; omega) y x ey ex
  have := SeqAt.RcNeAt.tuples t1 t2 (by omega) he
  rw [all_true, hs] at this
  exact EqBoolInt.of_rcne this ⟨σ, s.heap, s.toks, rfl, S, by simp, rfl⟩
theorem CmpH.eqTup {n : Nat} {k : Nat} (ok : OkA C.A k) (hk : n < 10 * k) {a b : Addr} {vs ws : List Value} (ha : σ.H a = some (.tup vs)) (hb : σ.H b = some (.tup ws)) (hlen : vs.length = ws.length) (h : ∀ (i : Nat) (v w : Value), vs[i]? = some v → ws[i]? = some w → DEq σ.H n v w) :
    CmpH C .Eq (.ref a) (.ref b) σ true := fun va vb ea eb s S => by
  rw [er_ref ea, er_ref eb]
  have hu := ok.un
  obtain ⟨vs', ws', t1, t2, hs, he⟩ := DEq.tupsAt (A := C.A) S ha hb hlen fun i v w h1 h2 y x ey ex => (h i v w h1 h2).at S (by show C.A.units + 1 + n < _; omega) y x ey ex
  have := SeqAt.RcAt.tuples t1 t2 (by omega) he
  rw [all_true, hs] at this
  exact EqBoolInt.of_rc this ⟨σ, s.heap, s.toks, rfl, S, by simp, rfl⟩
/-- lists of the same ints -/
theorem lists_at {b₀ : Heap} {L : Addr} {F : AH} {A : Around} {s : Shared} {a b : Addr} {vs ws : List Value} (S : Sat b₀ L F s.heap σ) (ha : σ.H a = some (.list vs)) (hb : σ.H b = some (.list ws)) (hlen : vs.length = ws.length) 
    (ih : ∀ (i : Nat) (v w : Value), vs[i]? = some v → ws[i]? = some w → ∃ i : Int, v = Value.int i 0 ∧ w = Value.int i 0) : ∃ vs' ws', s.heap.IsList a (List.toArray vs') ∧ s.heap.IsList b (List.toArray ws') ∧ vs'.toArray.size = ws'.toArray.size ∧
      ∀ j (h1 : j < vs'.toArray.size) (h2 : j < ws'.toArray.size), SeqAt.EqAt A.in1 s vs'.toArray[j] ws'.toArray[j] ((fun _ => true) j) := by
  obtain ⟨vs', t1, e1⟩ := list_is S ha
  obtain ⟨ws', t2, e2⟩ := list_is S hb
  refine ⟨vs', ws', t1, t2, ?_, fun j h1 h2 => ?_⟩
  · rw [List.size_toArray, List.size_toArray]
    rw [← List.length_map (f := er) (as := vs'), ← List.length_map (f := er) (as := ws'), e1, e2, hlen]
  · obtain ⟨i, q1, q2⟩ := ih j _ _ (getE e1 h1) (getE e2 h2)
    obtain ⟨t, r1⟩ := er_int q1
    obtain ⟨u, r2⟩ := er_int q2
    rw [r1, r2]
    have := SeqAt.EqAt.int_int (A := A.in1) (s := s) i t i u
    simpa using this
theorem CmpH.neInts {k : Nat} (ok : OkA C.A k) {a b : Addr} {vs ws : List Value} (ha : σ.H a = some (.list vs)) (hb : σ.H b = some (.list ws)) (hlen : vs.length = ws.length) (h : ∀ (i : Nat) (v w : Value), vs[i]? = some v → ws[i]? = some w → ∃ i : Int, v = Value.int i 0 ∧ w = Value.int i 0) :
    CmpH C .NotEq (.ref a) (.ref b) σ false := fun va vb ea eb s S => by
  rw [er_ref ea, er_ref eb]
  obtain ⟨vs', ws', t1, t2, hs, he⟩ := lists_at (A := C.A) S ha hb hlen h
  have := SeqAt.RcNeAt.lists t1 t2 hs ok.units he
  rw [all_true] at this
  exact EqBoolInt.of_rcne this ⟨σ, s.heap, s.toks, rfl, S, by simp, rfl⟩
/-- against the empty list -/
theorem list_lens {b₀ : Heap} {L : Addr} {F : AH} {s : Shared} {a b : Addr} {vs ws : List Value} (S : Sat b₀ L F s.heap σ) (ha : σ.H a = some (.list vs)) (hb : σ.H b = some (.list ws)) : ∃ vs' ws', s.heap.IsList a (List.toArray vs') ∧ s.heap.IsList b (List.toArray ws') ∧ vs'.length = vs.length ∧ ws'.length = ws.length := by
  obtain ⟨vs', t1, e1⟩ := list_is S ha
  obtain ⟨ws', t2, e2⟩ := list_is S hb
  exact ⟨vs', ws', t1, t2, by rw [← e1, List.length_map], by rw [← e2, List.length_map]⟩
theorem CmpH.eqNil {k : Nat} (ok : OkA C.A k) {a b : Addr} {vs : List Value} (ha : σ.H a = some (.list vs)) (hb : σ.H b = some (.list [])) : CmpH C .Eq (.ref a) (.ref b) σ vs.isEmpty := fun va vb ea eb s S => by
  rw [er_ref ea, er_ref eb]
  obtain ⟨vs', ws', t1, t2, l1, l2⟩ := list_lens S ha hb
  cases vs with
  | nil =>
    have := SeqAt.RcAt.lists (A := C.A) (e := fun _ => true) t1 t2 (by simp at l1 l2; simp [l1, l2]) ok.units (fun j h1 h2 => absurd h1 (by simp at l1; simp [l1]))
    rw [all_true] at this
    exact EqBoolInt.of_rc this ⟨σ, s.heap, s.toks, rfl, S, rfl, rfl⟩
  | cons v r =>
    have := SeqAt.RcAt.lists_lengths (A := C.A) t1 t2 (by simp at l1 l2; simp [l1, l2]) ok.units
    exact EqBoolInt.of_rc this ⟨σ, s.heap, s.toks, rfl, S, rfl, rfl⟩
/-! Built-in calls -/
variable {Φ : Value → St → Prop} {l : Addr} {vs : List Value}
theorem CallTo.range1 {n : Nat} (h : ∀ a, σ.H a = none → Φ (.ref a) ⟨σ.m, upd σ.H a (.range 0 (0 + n))⟩) : CallTo C (.type "range") [.int n 0] σ Φ := fun vs' e s S => by
  obtain ⟨x, rfl, e1⟩ := map_er1 e
  obtain ⟨t, rfl⟩ := er_int e1
  refine call_range_1 ?_
  obtain ⟨S', hn⟩ := S.push (ob := { cls := .type "range", data := .fields #[.int 0 s.toks, .int n t, .int 1 (s.toks + 1)] }) (o := .range 0 (0 + n)) rfl (fun _ _ => by simp) fun dd => ⟨_, _, _, by rw [Int.zero_add]; exact Heap.get?_push_size _ rfl⟩
  exact ⟨_, _, _, rfl, S', h _ hn⟩
theorem CallTo.range2 {a b : Int} (h : ∀ r, σ.H r = none → Φ (.ref r) ⟨σ.m, upd σ.H r (.range a b)⟩) : CallTo C (.type "range") [.int a 0, .int b 0] σ Φ := fun vs' e s S => by
  obtain ⟨x, y, rfl, e1, e2⟩ := map_er2 e
  obtain ⟨t, rfl⟩ := er_int e1
  obtain ⟨u, rfl⟩ := er_int e2
  refine call_range_2 ?_
  obtain ⟨S', hn⟩ := S.push (ob := { cls := .type "range", data := .fields #[.int a t, .int b u, .int 1 s.toks] }) (o := .range a b) rfl (fun _ _ => by simp) fun dd => ⟨_, _, _, Heap.get?_push_size _ rfl⟩
  exact ⟨_, _, _, rfl, S', h _ hn⟩
theorem CallTo.max2 {a b : Int} {t u : Tok} (hd : C.A.handled = none) (h : Φ (.int (max a b) 0) σ) : CallTo C (.builtin "max") [.int a t, .int b u] σ Φ := fun vs' e s S => by
  obtain ⟨x, y, rfl, e1, e2⟩ := map_er2 e
  obtain ⟨t, rfl⟩ := er_int e1
  obtain ⟨u, rfl⟩ := er_int e2
  refine max_two_ints hd fun h' tk hk => ?_
  have S' := S.all hk
  by_cases c : b > a
  · rw [if_pos c]
    have : max a b = b := by omega
    exact ⟨σ, h', tk, rfl, S', by simpa [er, this] using h⟩
  · rw [if_neg c]
    have : max a b = a := by omega
    exact ⟨σ, h', tk, rfl, S', by simpa [er, this] using h⟩
theorem CallTo.min2 {a b : Int} {t u : Tok} (hd : C.A.handled = none) (h : Φ (.int (min a b) 0) σ) : CallTo C (.builtin "min") [.int a t, .int b u] σ Φ := fun vs' e s S => by
  obtain ⟨x, y, rfl, e1, e2⟩ := map_er2 e
  obtain ⟨t, rfl⟩ := er_int e1
  obtain ⟨u, rfl⟩ := er_int e2
  refine min_two_ints hd fun h' tk hk => ?_
  have S' := S.all hk
  by_cases c : b < a
  · rw [if_pos c]
    have : min a b = b := by omega
    exact ⟨σ, h', tk, rfl, S', by simpa [er, this] using h⟩
  · rw [if_neg c]
    have : min a b = a := by omega
    exact ⟨σ, h', tk, rfl, S', by simpa [er, this] using h⟩
theorem CallTo.tuple (hl : σ.H l = some (.list vs)) (hz : vs.length ≤ sizeLine) (h : ∀ a, σ.H a = none → Φ (.ref a) ⟨σ.m, upd σ.H a (.tup vs)⟩) : CallTo C (.type "tuple") [.ref l] σ Φ := fun vs' e s S => by
  obtain ⟨x, rfl, e1⟩ := map_er1 e
  rw [er_ref e1]
  obtain ⟨ws, hL, ew⟩ := list_is S hl
  have hlen : ws.length = vs.length := by rw [← ew, List.length_map]
  refine call_tuple_list hL (fun h' hk => ?_) (by rw [List.size_toArray, hlen]; exact hz)
  have S' := S.all hk
  obtain ⟨S'', hn⟩ := S'.push (ob := { cls := .type "tuple", data := .seq ws.toArray }) (o := .tup vs) rfl (fun _ _ => by simp) fun dd => ⟨ws, 0, Heap.get?_push_size _ rfl, ew⟩
  exact ⟨_, _, _, rfl, S'', h _ hn⟩
theorem kl_cut_at {y : Value} : ∀ {l : List Value} {k : Nat}, l[k]? = some y → kl_cut l k = some (l.take k, y, l.drop (k + 1))
  | [], _, h => by simp at h
  | x :: r, 0, h => by simp at h; subst h; rfl
  | x :: r, k + 1, h => by
    have := kl_cut_at (l := r) (k := k) (by simpa using h)
    unfold kl_cut
    rw [this]; rfl
theorem CallTo.pop {k : Int} {v : Value} (hl : σ.H l = some (.list vs)) (h0 : 0 ≤ k) (hk : k < 2 ^ 62) (hx : vs[k.toNat]? = some v) (hz : vs.length ≤ sizeLine) (h : Φ v ⟨σ.m, upd σ.H l (.list (vs.eraseIdx k.toNat))⟩) : CallTo C (.builtin "list.pop") [.ref l, .int k 0] σ Φ := fun vs' e s S => by
  obtain ⟨x, y, rfl, e1, e2⟩ := map_er2 e
  rw [er_ref e1]
  obtain ⟨u, rfl⟩ := er_int e2
  obtain ⟨m', dd, F, em, R, D⟩ := id S.ex
  obtain ⟨hb, hL, ws, n, hO, ew⟩ := R.own _ _ (orF_l hl)
  have hlen : ws.length = vs.length := by rw [← ew, List.length_map]
  obtain ⟨w, hw, hwv⟩ := get_er ew hx
  have hlt : k.toNat < ws.length := by
    obtain ⟨h, _⟩ := List.getElem?_eq_some_iff.mp hw
    exact h
  obtain ⟨news', U, hm, hk'⟩ := upd_of (o' := listOf (ws.take k.toNat ++ ws.drop (k.toNat + 1)).toArray (n + 1)) (full_nodup C.b C.L s.heap) (mem_full.mpr ⟨hO, hL, hb⟩)
  have hfit : Builtin.List.listFitsIndex k = true := fitsIndex_of h0 (by omega)
  refine kl_popAt F (full_news C.b C.L s.heap) hfit (seqIndex_of h0 (by rw [List.size_toArray]; omega)) (kl_cut_at hw) U (by simpa [hlen] using hz) fun h' F' N' => ?_
  have he : ws.take k.toNat ++ ws.drop (k.toNat + 1) = ws.eraseIdx k.toNat := (List.eraseIdx_eq_take_drop_succ ws k.toNat).symm
  refine ⟨⟨σ.m, upd σ.H l (.list (vs.eraseIdx k.toNat))⟩, h', _, rfl, ⟨m', dd, F', em, upd_orF ▸ R.set (orF_l hl) (fun _ _ => by simp) (fun _ _ => by simp) ?_ ⟨ws.eraseIdx k.toNat, n + 1, he ▸ (N' _ hm).1, ?_⟩, D.upd (D.at hl)⟩, by dsimp only; rw [hwv]; exact h⟩
  · exact fun x ob hx hxL q => stays_full (P := fun z => z = l) F F' N' (fun p hp hne => hk' p hp hne) (fun z hz => hz ▸ hb) x ob hx hxL q
  · rw [← ew, List.eraseIdx_eq_take_drop_succ, List.eraseIdx_eq_take_drop_succ, List.map_append, List.map_take, List.map_drop]
theorem ints_are : ∀ {vs : List Value} {ns : List Int}, vs.map er = ns.map (fun i => Value.int i 0) → IntsAre vs ns
  | [], [], _ => .nil
  | v :: vs, n :: ns, h => by
    simp only [List.map_cons, List.cons.injEq] at h
    obtain ⟨t, rfl⟩ := er_int h.1
    exact .cons n t (ints_are h.2)
theorem CallTo.index {k : Int} {ns : List Int} (hl : σ.H l = some (.list (ns.map fun i => Value.int i 0))) (hk : k ∈ ns) (hz : PyData.layable0 (.list (ns.map .int)) = true) (h : Φ (.int (ns.idxOf k : Nat) 0) σ) : CallTo C (.builtin "list.index") [.ref l, .int k 0] σ Φ := fun vs' e s S => by
  obtain ⟨x, y, rfl, e1, e2⟩ := map_er2 e
  rw [er_ref e1]
  obtain ⟨u, rfl⟩ := er_int e2
  obtain ⟨ws, hL, ew⟩ := list_is S hl
  exact index_list_ints hL (ints_are ew) hz hk ⟨σ, s.heap, _, rfl, S, h⟩
end
end Mine
end
section
set_option maxRecDepth 100000
set_option Elab.async false
set_option linter.unusedVariables false
namespace Mine
open PySem PySem.W PySem.Calls PyProof.Rows

/-! More tests -/
section
variable {C : Cx} {env : Env} {e l m r test body orelse : Expr} {σ : St} {pos : Pos}
theorem It.ev {Φ : Bool → St → Prop} (h : Ev C env e σ fun v σ₁ => ∃ x, TruthTo C v x σ₁ ∧ Φ x σ₁) (he : isTrue e env (eval e env) = (do let v ← eval e env; standAt e.pos; holding [v] (truthy v)) := by rfl) : It C env e σ Φ := fun s S =>
  wpAny_isTrue_value (Tr.run h S fun v σ₁ h₁ k₁ S₁ ⟨x, t, p⟩ => Tr.run (t v rfl) S₁ fun b σ₂ h₂ k₂ S₂ ⟨e, e2⟩ => by subst e e2; exact ⟨_, _, _, rfl, S₂, p⟩) he
theorem Pt.ev {x : Bool} (h : Pe C env e σ (.bool x)) (he : isTrue e env (eval e env) = (do let v ← eval e env; standAt e.pos; holding [v] (truthy v)) := by rfl) : Pt C env e σ x := It.ev (Pe.ev h ⟨x, TruthTo.bool, rfl, rfl⟩) he
def AllAnd (C : Cx) (env : Env) : List Expr → St → (Bool → St → Prop) → Prop
  | [], σ, Φ => Φ true σ
  | e :: r, σ, Φ => It C env e σ fun x σ₁ => if x then AllAnd C env r σ₁ Φ else Φ false σ₁
def AllOr (C : Cx) (env : Env) : List Expr → St → (Bool → St → Prop) → Prop
  | [], σ, Φ => Φ false σ
  | e :: r, σ, Φ => It C env e σ fun x σ₁ => if x then Φ true σ₁ else AllOr C env r σ₁ Φ
theorem tr_allAnd {Φ : Bool → St → Prop} : ∀ {es : List Expr} {σ : St}, AllAnd C env es σ Φ → Tr C (allTrue .And es env) σ Φ
  | [], σ, h => fun s S => wpAny_allTrue_And_nil ⟨σ, s.heap, s.toks, rfl, S, h⟩
  | e :: r, σ, h => fun s S => wpAny_allTrue_And_cons (Tr.run h S fun x σ₁ h₁ k₁ S₁ p₁ => by
    cases x
    · exact ⟨σ₁, h₁, k₁, rfl, S₁, p₁⟩
    · rw [if_pos rfl]; exact Tr.run (tr_allAnd p₁) S₁ fun x σ₂ h₂ k₂ S₂ p₂ => ⟨σ₂, h₂, k₂, rfl, S₂, p₂⟩)
theorem tr_allOr {Φ : Bool → St → Prop} : ∀ {es : List Expr} {σ : St}, AllOr C env es σ Φ → Tr C (allTrue .Or es env) σ Φ
  | [], σ, h => fun s S => wpAny_allTrue_Or_nil ⟨σ, s.heap, s.toks, rfl, S, h⟩
  | e :: r, σ, h => fun s S => wpAny_allTrue_Or_cons (Tr.run h S fun x σ₁ h₁ k₁ S₁ p₁ => by
    cases x
    · exact Tr.run (tr_allOr p₁) S₁ fun x σ₂ h₂ k₂ S₂ p₂ => ⟨σ₂, h₂, k₂, rfl, S₂, p₂⟩
    · exact ⟨σ₁, h₁, k₁, rfl, S₁, p₁⟩)
theorem It.andL {Φ : Bool → St → Prop} {es : List Expr} (h : AllAnd C env es σ Φ) : It C env (.BoolOp .And es pos) σ Φ := fun s S =>
  wpAny_isTrue_BoolOp (Tr.run (tr_allAnd h) S fun x σ₂ h₂ k₂ S₂ p₂ => ⟨σ₂, h₂, k₂, rfl, S₂, p₂⟩)
theorem It.orL {Φ : Bool → St → Prop} {es : List Expr} (h : AllOr C env es σ Φ) : It C env (.BoolOp .Or es pos) σ Φ := fun s S =>
  wpAny_isTrue_BoolOp (Tr.run (tr_allOr h) S fun x σ₂ h₂ k₂ S₂ p₂ => ⟨σ₂, h₂, k₂, rfl, S₂, p₂⟩)
theorem Pt.and3 {x y z : Bool} (h1 : Pt C env l σ x) (h2 : x = true → Pt C env m σ y) (h3 : x = true → y = true → Pt C env r σ z) : Pt C env (.BoolOp .And [l, m, r] pos) σ (x && y && z) := It.andL (h1.it (by
  cases x
  · exact ⟨rfl, rfl⟩
  · refine (h2 rfl).it ?_
    cases y
    · exact ⟨rfl, rfl⟩
    · exact (h3 rfl rfl).it (by cases z <;> exact ⟨rfl, rfl⟩)))
theorem Pt.or3 {x y z : Bool} (h1 : Pt C env l σ x) (h2 : x = false → Pt C env m σ y) (h3 : x = false → y = false → Pt C env r σ z) : Pt C env (.BoolOp .Or [l, m, r] pos) σ (x || y || z) := It.orL (h1.it (by
  cases x
  · refine (h2 rfl).it ?_
    cases y
    · exact (h3 rfl rfl).it (by cases z <;> exact ⟨rfl, rfl⟩)
    · exact ⟨rfl, rfl⟩
  · exact ⟨rfl, rfl⟩))
theorem Pt.chain {o₁ o₂ : CmpOp} {a b c : Value} {x y : Bool} (hl : Pe C env l σ a) (h1 : Pe C env m σ b) (c1 : CmpTo C o₁ a b x) (h2 : x = true → Pe C env r σ c ∧ CmpTo C o₂ b c y) (hm : lastMarks [o₁, o₂] [m, r] = false) : Pt C env (.Compare l [o₁, o₂] [m, r] pos) σ (x && y) := fun s S =>
  isTrue_chain (Tr.run hl S fun va σ₁ t₁ k₁ S₁ ⟨e1, q1⟩ => by
    subst q1
    refine test_link (Tr.run h1 S₁ fun vb σ₂ t₂ k₂ S₂ ⟨e2, q2⟩ => ?_)
    subst q2
    refine c1 _ _ e1 e2 _ _ _ fun k => wpAny_truthy_bool ?_
    cases x
    · exact ⟨σ₂, t₂, k, rfl, S₂, rfl, rfl⟩
    · obtain ⟨h2, c2⟩ := h2 rfl
      rw [if_pos rfl]
      show wpAny _ _ (testChain pos vb [o₂] [eval r env]) _ _ _
      unfold testChain
      refine wpAny_bind (wpAny_holding (Tr.run (s := { s with heap := t₂, toks := k }) h2 S₂ fun vc σ₃ t₃ k₃ S₃ ⟨e3, q3⟩ => ?_))
      subst q3
      refine wpAny_bind (wpAny_standAt (wpAny_bind (wpAny_operate' (c2 _ _ e2 e3 _ _ _ fun k => ?_))))
      exact wpAny_holding (wpAny_truthy_bool ⟨σ₃, t₃, k, rfl, S₃, by simp, rfl⟩)) hm
theorem Ev.ifexp {Φ : Value → St → Prop} (h : It C env test σ fun x σ₁ => if x then Ev C env body σ₁ Φ else Ev C env orelse σ₁ Φ) : Ev C env (.IfExp test body orelse pos) σ Φ := fun s S =>
  wpAny_IfExp (Tr.run h S fun x σ₁ h₁ k₁ S₁ p₁ => by
    cases x
    · exact Tr.run p₁ S₁ fun f σ₂ h₂ k₂ S₂ p₂ => ⟨σ₂, h₂, k₂, rfl, S₂, p₂⟩
    · exact Tr.run p₁ S₁ fun f σ₂ h₂ k₂ S₂ p₂ => ⟨σ₂, h₂, k₂, rfl, S₂, p₂⟩)
theorem Pe.ifexp {x : Bool} {a b : Value} (h : Pt C env test σ x) (h1 : x = true → Pe C env body σ a) (h2 : x = false → Pe C env orelse σ b) : Pe C env (.IfExp test body orelse pos) σ (if x then a else b) := Ev.ifexp (h.it (by
  cases x
  · exact h2 rfl
  · exact h1 rfl))
end
/-! in a written tuple of ints -/
theorem CmpH.inInts {C : Cx} {σ : St} {t : Addr} {k : Int} {u : Tok} {ns : List Int} (ht : σ.H t = some (.tup (ns.map fun i => .int i 0))) : CmpH C .In (.int k u) (.ref t) σ (ns.contains k) := fun va vb ea eb s S => by
  rw [er_ref eb]
  obtain ⟨u', rfl⟩ := er_int ea
  obtain ⟨vs', t1, e1⟩ := tup_isT S ht
  have hall : ∀ y, y ∈ vs'.toArray → SeqAt.EqAt C.A.in1 s y (.int k u') (match y with | .int i _ => i == k | _ => false) := fun y hy => by
    have hy' : er y ∈ vs'.map er := List.mem_map.mpr ⟨y, by simpa using hy, rfl⟩
    rw [e1] at hy'
    obtain ⟨i, _, hi⟩ := List.mem_map.mp hy'
    obtain ⟨t', rfl⟩ := er_int hi.symm
    exact SeqAt.EqAt.int_int i t' k u'
  refine SeqAt.in_tupleAt _ t1 hall ⟨σ, s.heap, s.toks, rfl, S, ?_, rfl⟩
  congr 1
  rw [List.any_toArray]
  have : ∀ (l : List Value) (ns : List Int), l.map er = ns.map (fun i => Value.int i 0) → l.any (fun y => match y with | .int i _ => i == k | _ => false) = ns.contains k := by
    intro l
    induction l with
    | nil => intro ns h; cases ns with
      | nil => rfl
      | cons _ _ => cases h
    | cons y r ih =>
      intro ns h
      cases ns with
      | nil => cases h
      | cons n ns =>
        simp only [List.map_cons, List.cons.injEq] at h
        obtain ⟨t', rfl⟩ := er_int h.1
        simp only [List.any_cons, List.contains_cons, ih ns h.2]
        congr 1
        rw [Bool.eq_iff_iff, beq_iff_eq, beq_iff_eq]; exact ⟨Eq.symm, Eq.symm⟩
  exact this _ _ e1

/-! A for whose target is a tuple -/
section
variable {C : Cx} {env : Env} {σ : St}
def NoGo (C : Cx) (target : Expr) (st : Nat → AO) : Prop := ∀ i σ it T, σ.H it = some (st i) → Tr C (letOwnedTupleGo target (.ref it) (.ref T)) σ fun _ σ' => σ' = σ
theorem NoGo.list {elts : List Expr} {k : Nat} {tp : Pos} {l : Addr} : NoGo C (.Tuple elts k tp) (.liter l) := fun i σ it T h s S => by
  obtain ⟨dd, hit⟩ := S.obj h
  exact wpAny_letOwnedTupleGo_listiter hit ⟨σ, s.heap, s.toks, rfl, S, rfl⟩
theorem NoGo.tup {elts : List Expr} {k : Nat} {tp : Pos} {l : Addr} : NoGo C (.Tuple elts k tp) (.titer l) := fun i σ it T h s S => by
  obtain ⟨dd, o, ho, hc, hd⟩ := S.obj h
  unfold letOwnedTupleGo
  refine wpAny_bind (wpAny_load ho ?_)
  rw [hc, hd]
  show wpAny _ _ (if (["enumerate", "zip", "dict_itemiterator", "dict_reverseitemiterator", "odict_iterator", "itertools.zip_longest", "itertools.pairwise"].contains "tuple_iterator" &&
      (#[.ref l, .int i 0] : Array Value)[0]? == some (rawInt T)) = true then _ else _) _ _ s
  rw [if_neg (by
    intro h
    rw [show (["enumerate", "zip", "dict_itemiterator", "dict_reverseitemiterator", "odict_iterator", "itertools.zip_longest", "itertools.pairwise"].contains "tuple_iterator") = false from by decide, Bool.false_and] at h
    cases h)]
  exact wpAny_pure ⟨σ, s.heap, s.toks, rfl, S, rfl⟩
theorem Ex.forT {Φ : Flow → St → Prop} {pos : Pos} {target iter : Expr} {body : List Stmt}
    (h : Ev C env iter σ fun xv σ₁ => ∃ a vals st src, xv = .ref a ∧ IterOver C vals st src ∧ NoGo C target st ∧ src σ₁.H ∧ MakesIter C (.ref a) σ₁ (st 0) ∧ ∃ I : Nat → St → Prop, I 0 σ₁ ∧ (∀ i σ', I i σ' → src σ'.H) ∧
      (∀ F i v σ', vals[i]? = some v → I i σ' → (∃ T, v = .ref T) ∧ ∃ σ₃, (∀ v', er v' = v → Tr { C with F := F } (PySem.assign target env v') σ' fun _ σ'' => σ'' = σ₃) ∧ Exs { C with F := F } env body σ₃ fun f σ'' => match f with | .next => I (i + 1) σ'' | .cont => I (i + 1) σ'' | .brk => Φ .next σ'' | .ret v => Φ (.ret v) σ'') ∧
      ∀ σ', I vals.length σ' → Φ .next σ')
    (hs : ∀ x, foldedSetIterable iter env x = pure x := by intro _; rfl) : Ex C env (.For target iter body [] pos) σ Φ := fun s S => by
  refine wpAny_For (Tr.run h S fun xv σ₁ h₁ k₁ S₁ ⟨a, vals, st, src, q, IO, go, hsrc, mk, I, hI0, hIs, turn, fin⟩ => ?_) hs
  rw [er_ref q]
  refine Tr.run (mk (fun v σ' => ∃ it, v = .ref it ∧ σ₁.H it = none ∧ σ' = ⟨σ₁.m, upd σ₁.H it (st 0)⟩) fun it hn => ⟨it, rfl, hn, rfl⟩) S₁ fun itv σ₂ h₂ k₂ S₂ ⟨it, qi, hn, q2⟩ => ?_
  subst q2
  rw [er_ref qi]
  refine codeAny_forLoop_any (fun n s' => ∃ i σ' h' tk', n = vals.length - i ∧ i ≤ vals.length ∧ I i σ' ∧ σ'.H it = none ∧ s' = { s with heap := h', toks := tk' } ∧ Sat C.b C.L C.F h' ⟨σ'.m, upd σ'.H it (st i)⟩) ?_ _ ⟨0, σ₁, h₂, k₂, rfl, Nat.zero_le _, hI0, hn, rfl, S₂⟩
  rintro n s' ⟨i, σ', h', tk', rfl, hi, hIi, hnn, rfl, S'⟩
  have hsr : src (upd σ'.H it (st i)) := IO.mono _ _ (same_upd hnn) (hIs _ _ hIi)
  by_cases hlt : i < vals.length
  · have hv : vals[i]? = some vals[i] := by simp [hlt]
    refine Tr.run (C := { C with F := C.F }) (IO.next C.b C.L C.F i ⟨σ'.m, upd σ'.H it (st i)⟩ it vals[i] (fun r σ'' => r = some vals[i] ∧ σ'' = ⟨σ'.m, upd σ'.H it (st (i + 1))⟩) (upd_self _ _ _) hsr hv ⟨rfl, by rw [upd_upd]⟩) S' fun r σ'' h'' tk'' S'' ⟨e1, e2⟩ => ?_
    subst e2
    cases r with
    | none => cases e1
    | some v =>
      dsimp only [Option.map] at e1
      have ev : er v = vals[i] := Option.some.inj e1
      obtain ⟨⟨T, eT⟩, σ₃, asg, bod⟩ := turn (orF (single it (st (i + 1))) C.F) i vals[i] σ' hv hIi
      have hvT : v = .ref T := er_ref (ev.trans eT)
      refine Tr.run (hvT ▸ go (i + 1) ⟨σ'.m, upd σ'.H it (st (i + 1))⟩ it T (upd_self _ _ _) : Tr C (letOwnedTupleGo target (.ref it) v) _ _) S'' fun _ σ'' h'' tk'' S'' e2 => ?_
      subst e2
      have S₃' : Sat C.b C.L C.F h'' ⟨σ'.m, orF σ'.H (single it (st (i + 1)))⟩ := by rw [orF_single hnn]; exact S''
      refine Tr.run (Tr.frame (disj_single hnn) (asg v ev)) S₃' fun _ σ₃' h₃ tk₃ S₃ ⟨H₃, e3, D3, p3⟩ => ?_
      have e3' : σ₃' = ⟨σ₃.m, orF σ₃.H (single it (st (i + 1)))⟩ := by rw [← p3, ← e3]
      have D3' : Disj σ₃.H (single it (st (i + 1))) := by rw [← p3]; exact D3
      clear p3 e3
      subst e3'
      refine Tr.run (Tr.frame D3' bod) S₃ fun f σ₄ h₄ tk₄ S₄ ⟨H', e4, D4, p4⟩ => ?_
      have hn4 := disj_single_iff D4
      rw [orF_single hn4] at e4
      have S₄' : Sat C.b C.L C.F h₄ ⟨σ₄.m, upd H' it (st (i + 1))⟩ := by
        have : σ₄ = ⟨σ₄.m, upd H' it (st (i + 1))⟩ := by cases σ₄; cases e4; rfl
        rw [← this]; exact S₄
      have S₅ : Sat C.b C.L C.F h₄ ⟨σ₄.m, H'⟩ := Sat.le S₄' rfl fun y o q => (same_upd hn4).at q
      cases f with
      | next => exact ⟨vals.length - (i + 1), by omega, i + 1, ⟨σ₄.m, H'⟩, h₄, tk₄, rfl, hlt, p4, hn4, rfl, S₄'⟩
      | cont => exact ⟨vals.length - (i + 1), by omega, i + 1, ⟨σ₄.m, H'⟩, h₄, tk₄, rfl, hlt, p4, hn4, rfl, S₄'⟩
      | brk => exact ⟨⟨σ₄.m, H'⟩, h₄, tk₄, rfl, S₅, p4⟩
      | ret v => exact ⟨⟨σ₄.m, H'⟩, h₄, tk₄, rfl, S₅, p4⟩
  · have hi' : i = vals.length := by omega
    subst hi'
    refine Tr.run (C := { C with F := C.F }) (IO.done C.b C.L C.F ⟨σ'.m, upd σ'.H it (st vals.length)⟩ it (fun r σ'' => r = none ∧ σ'' = σ') (upd_self _ _ _) hsr ⟨rfl, by rw [drop_upd hnn]⟩) S' fun r σ'' h'' tk'' S'' ⟨e1, e2⟩ => ?_
    subst e2
    cases r with
    | some v => cases e1
    | none => exact wpAny_execs_nil ⟨σ'', h'', tk'', rfl, S'', fin σ'' hIi⟩

/-! An item is stored from behind -/
theorem setItemN_at {l : Addr} {k : Int} {t : Tok} {v : Value} {s : Shared} {E : Value → Shared → Prop} {items : Array Value} {n : Nat} {Q : Unit → Shared → Prop} (ho : s.heap.get? l = some (listOf items n)) (h0 : k < 0) (h1 : -(items.size : Int) ≤ k) (hfit : -(2 ^ 63) ≤ k)
    (hQ : Q () { s with heap := s.heap.update l (Obj.mapSeq (·.setIfInBounds (k + items.size).toNat v)) }) : wpAny (model C.prog C.w) C.A (setItem (.ref l) (.int k t) v) Q E s := by
  have hl : s.heap.IsList l items := ⟨_, ho, rfl, n, rfl⟩
  unfold setItem
  refine wpAny_holding ?_
  refine wpAny_bind (wpAny_sequenceKey hl.typeIs (by decide) ?_)
  refine wpAny_bind (wpAny_callSpecial?_slot (name := Str.ofString "__setitem__") hl.typeIs slot_list_setitem
    (wpAny_call_entry slot_list_setitem hl.typeIs entry_list_setitem ?_ (args_list_setitem _ _ _)))
  show wpAny _ _ (Builtin.List.listSubscript? (.int k t) >>= _) _ _ s
  refine wpAny_bind (wpAny_listSubscript_int (fitsIndex_neg h0 hfit) ?_)
  clear hfit
  have hidx := seqIndex_neg h0 h1
  have hj : (k + items.size).toNat < items.size := by omega
  obtain ⟨j, rfl⟩ : ∃ j : Nat, k = Int.negSucc j := by
    cases k with
    | ofNat n => exact absurd h0 (Int.not_lt.mpr (Int.natCast_nonneg n))
    | negSucc n => exact ⟨n, rfl⟩
  show wpAny _ _ ((Builtin.List.listItems (.ref l) >>= fun xs => pure ((seqIndex? (Int.negSucc j) xs.size).bind fun i => xs[i]?.map (i, ·))) >>= _) _ _ s
  refine wpAny_bind (wpAny_bind ?_)
  show wpAny _ _ (seqItems? (.ref l) >>= _) _ _ s
  refine wpAny_bind (wpAny_seqItems ho rfl (wpAny_pure (wpAny_pure ?_)))
  rw [hidx]
  have hx' : items[(Int.negSucc j + items.size).toNat]? = some items[(Int.negSucc j + items.size).toNat] := Array.getElem?_eq_getElem hj
  simp only [Option.bind_some, hx', Option.map_some]
  show wpAny _ _ (setSeqItemAt l _ v >>= _) _ _ s
  refine wpAny_bind (wpAny_setSeqItemAt ho rfl ?_)
  exact wpAny_pure ⟨.none, rfl, wpAny_pure hQ⟩
theorem Ex.setitemN {pos apos : Pos} {value : Expr} {Φ : Flow → St → Prop} {ob ix : Expr} (hs : swapsWith value (some (.Subscript ob ix apos)) pos.line env = pure false)
    (h : Ev C env value σ fun v σ₁ => Ev C env ob σ₁ fun ov σ₂ => Ev C env ix σ₂ fun iv σ₃ => ∃ l vs k t, ov = .ref l ∧ iv = .int k t ∧ σ₃.H l = some (.list vs) ∧ k < 0 ∧ -(vs.length : Int) ≤ k ∧ -(2 ^ 63) ≤ k ∧ Φ .next ⟨σ₃.m, upd σ₃.H l (.list (vs.set (k + vs.length).toNat v))⟩) :
    Ex C env (.Assign [.Subscript ob ix apos] value pos) σ Φ := fun s S =>
  wpAny_Assign_Subscript (Tr.run h S fun v σ₁ h₁ k₁ S₁ p₁ => Tr.run p₁ S₁ fun ov σ₂ h₂ k₂ S₂ p₂ => Tr.run p₂ S₂ fun iv σ₃ h₃ k₃ S₃ ⟨l, vs, k, t, q, qi, hl, a, b, c, p₃⟩ => by
    rw [er_ref q]
    obtain ⟨u, rfl⟩ := er_int qi
    obtain ⟨dd, vs', n, h1, em⟩ := S₃.obj hl
    have hlen : vs'.length = vs.length := by rw [← em, List.length_map]
    refine setItemN_at h1 a (by simpa [hlen] using b) c ⟨⟨σ₃.m, upd σ₃.H l (.list (vs.set (k + vs.length).toNat (er v)))⟩, _, _, rfl, S₃.set hl (fun _ _ => by simp) (fun _ _ => by simp) (Heap.SameBut.update ..) fun dd => ?_, p₃⟩
    refine ⟨vs'.set (k + vs.length).toNat v, n, ?_, by rw [← em, List.map_set]⟩
    rw [Heap.get?_update_self _ h1 (by simp [Obj.mapSeq, Obj.isFreed])]
    simp [Obj.mapSeq, hlen]) hs
end
end Mine
end
section
set_option maxRecDepth 100000
set_option Elab.async false
set_option linter.unusedVariables false
namespace Mine
open PySem PySem.W PySem.Calls PyProof.Rows

theorem miss_list_keys : typeLookup (.type "list") "keys" = pure none := am_miss_of_fast (by kernel_rfl)
theorem miss_tuple_keys : typeLookup (.type "tuple") "keys" = pure none := am_miss_of_fast (by kernel_rfl)
theorem keys_list {prog : Program} {w : World} {A : Around} {E : Value → Shared → Prop} {s : Shared} {a : Addr} {xs : Array Value} {k : Nat} {Q : Option Value → Shared → Prop}
    (hx : s.heap.get? a = some (listOf xs k)) (hA : A.handled = none) (h : ∀ h' tk, (∀ b o, s.heap.get? b = some o → h'.get? b = some o) → Q none { s with heap := h', toks := tk }) :
    wpAny (model prog w) A (getAttr? (.ref a) "keys") Q E s := by
  obtain ⟨hp, g, d, tk, os⟩ := s
  have hT : ∀ tk', (⟨hp, g, d, tk', os⟩ : Shared).TypeIs (.ref a) "list" := fun _ => ⟨_, hx, rfl⟩
  have f1 := sub_AttributeError
  have f3 := PySem.F.slot_list_getattribute.lookup
  have f4 := PySem.F.slot_list_getattribute.bind (.ref a)
  have f5 := am_list_getattr_none
  unfold getAttr? getAttrBy? getAttrBy
  repeat (any_goals (first | assumption | exact hT _ | ((with_reducible show wpAny _ _ (call (Value.builtin "list.__getattribute__") _ _) _ _ _); refine call_meets PySem.F.slot_list_getattribute (hT _) am_entry_list_getattribute (PySem.F.args_list_getattribute_2 _ _) (meets_getattribute_miss_list a xs k #[] "keys" _ miss_list_keys (by decide +kernel) (by decide +kernel)) ⟨hx, hA, fun h' tk' e hx' => ?_⟩) | wp_step))
  obtain ⟨t', u', he⟩ := hx'.there
  show wpAny _ _ (getattributeRaised _ _ _ _ _ _ _) _ _ _
  unfold getattributeRaised
  repeat (any_goals (first | assumption | wp_step))
  exact h _ _ hx'.keeps
theorem keys_tuple {prog : Program} {w : World} {A : Around} {E : Value → Shared → Prop} {s : Shared} {a : Addr} {xs : Array Value} {k : Nat} {Q : Option Value → Shared → Prop}
    (hx : s.heap.get? a = some { cls := .type "tuple", data := .seq xs k }) (hA : A.handled = none) (h : ∀ h' tk, (∀ b o, s.heap.get? b = some o → h'.get? b = some o) → Q none { s with heap := h', toks := tk }) :
    wpAny (model prog w) A (getAttr? (.ref a) "keys") Q E s := by
  obtain ⟨hp, g, d, tk, os⟩ := s
  have hT : ∀ tk', (⟨hp, g, d, tk', os⟩ : Shared).TypeIs (.ref a) "tuple" := fun _ => ⟨_, hx, rfl⟩
  have f1 := sub_AttributeError
  have f3 := PySem.F.slot_tuple_getattribute.lookup
  have f4 := PySem.F.slot_tuple_getattribute.bind (.ref a)
  have f5 := am_tuple_getattr_none
  unfold getAttr? getAttrBy? getAttrBy
  repeat (any_goals (first | assumption | exact hT _ | ((with_reducible show wpAny _ _ (call (Value.builtin "tuple.__getattribute__") _ _) _ _ _); refine call_meets PySem.F.slot_tuple_getattribute (hT _) am_entry_tuple_getattribute (PySem.F.args_tuple_getattribute_2 _ _) (meets_getattribute_miss_tuple a xs k #[] "keys" _ miss_tuple_keys (by decide +kernel) (by decide +kernel)) ⟨hx, hA, fun h' tk' e hx' => ?_⟩) | wp_step))
  obtain ⟨t', u', he⟩ := hx'.there
  show wpAny _ _ (getattributeRaised _ _ _ _ _ _ _) _ _ _
  unfold getattributeRaised
  repeat (any_goals (first | assumption | wp_step))
  exact h _ _ hx'.keeps
end Mine
end
section
set_option maxRecDepth 100000
set_option Elab.async false
set_option linter.unusedVariables false
namespace Mine
open PySem PySem.W PySem.Calls PyProof.Rows

section
variable {C : Cx} {σ : St}
/-! a list is extended by a range -/
theorem push_at {b h : Heap} {L l : Addr} {F : AH} {σ : St} {acc : List Value} {v : Value} (S : Sat b L F h σ) (hl : σ.H l = some (.list acc)) : ∃ xs n, h.get? l = some (listOf xs n) ∧ xs.size = acc.length ∧ Sat b L F (h.update l (Obj.mapSeq (·.push v))) ⟨σ.m, upd σ.H l (.list (acc ++ [er v]))⟩ := by
  obtain ⟨dd, vs', n, h1, em⟩ := S.obj hl
  refine ⟨_, n, h1, by rw [List.size_toArray, ← em, List.length_map], S.set hl (fun _ _ => by simp) (fun _ _ => by simp) (Heap.SameBut.update ..) fun dd => ?_⟩
  refine ⟨vs' ++ [v], n + 1, ?_, by rw [List.map_append, em]; rfl⟩
  rw [Heap.get?_update_self _ h1 (by simp [Obj.mapSeq, Obj.isFreed])]
  simp [Obj.mapSeq]
theorem ext_loop {A : Around} (hd : A.handled = none) {lo : Int} {n : Nat} {l it : Addr} {R : Result → Shared → Prop} : ∀ (k i : Nat) (s : Shared) (σ : St) (acc : List Value), n - i = k → i ≤ n → σ.H it = some (.riter (lo + i) ((n : Int) - i)) → σ.H l = some (.list acc) → acc.length + k ≤ 100000 →
    Sat C.b C.L C.F s.heap σ → (∀ h tk σ', Sat C.b C.L C.F h σ' → σ'.m = σ.m → (∀ x, x ≠ it → σ'.H x = upd σ.H l (.list (acc ++ (rvals lo n).drop i)) x) → σ'.H it = none → R (.ok (.ret .none)) { s with heap := h, toks := tk }) →
    codeAny (model C.prog C.w) A (.builtin "list.extend.loop" ⟨[.ref l, .ref it, .none], []⟩) R s := by
  intro k
  induction k with
  | zero =>
    intro i s σ acc hk hi h1 h2 hz S hR
    have hin : i = n := by omega
    subst hin
    refine codeAny_builtin PySem.F.entry_extend_loop ?_
    rw [Around.under_plainId PySem.F.plain_extend_loop _]
    show wpAny _ A.in1 (pyNext (.ref it) >>= _) _ _ s
    have IO := IterOver.range (C := { C with A := A.in1 }) hd lo i
    refine wpAny_bind (Tr.run (C := { C with A := A.in1 }) (IO.done C.b C.L C.F σ it (fun r σ' => r = none ∧ σ' = ⟨σ.m, dropA σ.H it⟩) (by rw [rvals_len]; exact h1) trivial ⟨rfl, rfl⟩) S fun r σ' h' tk' S' ⟨e1, e2⟩ => ?_)
    subst e2
    cases r with
    | some v => cases e1
    | none =>
      refine wpAny_pure (hR _ _ _ S' rfl (fun x hx => ?_) (by simp [dropA]))
      have : (rvals lo i).drop i = [] := List.drop_of_length_le (by rw [rvals_len]; exact Nat.le_refl _)
      rw [this, List.append_nil]
      show dropA σ.H it x = _
      rw [dropA_ne hx]
      by_cases q : x = l
      · subst q; rw [upd_self, h2]
      · rw [upd_ne q]
  | succ k ih =>
    intro i s σ acc hk hi h1 h2 hz S hR
    have hlt : i < n := by omega
    have hit : l ≠ it := fun q => by rw [q, h1] at h2; cases h2
    refine codeAny_builtin PySem.F.entry_extend_loop ?_
    rw [Around.under_plainId PySem.F.plain_extend_loop _]
    show wpAny _ A.in1 (pyNext (.ref it) >>= _) _ _ s
    have IO := IterOver.range (C := { C with A := A.in1 }) hd lo n
    have hv : (rvals lo n)[i]? = some (.int (lo + i) 0) := by simp [rvals, hlt]
    refine wpAny_bind (Tr.run (C := { C with A := A.in1 }) (IO.next C.b C.L C.F i σ it _ (fun r σ' => r = some (.int (lo + i) 0) ∧ σ' = ⟨σ.m, upd σ.H it (.riter (lo + (i + 1 : Nat)) ((n : Int) - (i + 1 : Nat)))⟩) h1 trivial hv ⟨rfl, rfl⟩) S fun r σ' h' tk' S' ⟨e1, e2⟩ => ?_)
    subst e2
    cases r with
    | none => cases e1
    | some v =>
      have ev : er v = .int (lo + i) 0 := Option.some.inj e1
      have h2' : upd σ.H it (.riter (lo + (i + 1 : Nat)) ((n : Int) - (i + 1 : Nat))) l = some (.list acc) := by rw [upd_ne hit]; exact h2
      obtain ⟨xs, c, ho, hsz, S''⟩ := push_at (v := v) S' h2'
      show wpAny _ A.in1 (updateSeq l (·.push v) >>= _) _ _ _
      refine wpAny_bind ?_
      refine wpAny_updateSeq ho rfl (wpAny_pure ⟨plainId_quiet PySem.F.plain_extend_loop _, ih (i + 1) _ _ (acc ++ [er v]) (by omega) hlt (by dsimp only; rw [upd_ne (Ne.symm hit), upd_self]) (by dsimp only; rw [upd_self]) (by rw [List.length_append]; simp; omega) S'' fun h tk σ' S₃ em eH eN => ?_⟩)
        (by rw [hsz]; have : sizeLine = 2 ^ 24 := rfl; omega) (by show (xs.push v).size ≤ sizeLine + 1; rw [Array.size_push, hsz]; have : sizeLine = 2 ^ 24 := rfl; omega)
      refine hR h tk σ' S₃ em (fun x hx => ?_) eN
      rw [eH x hx]
      have hdrop : (rvals lo n).drop i = .int (lo + i) 0 :: (rvals lo n).drop (i + 1) := by
        rw [List.drop_eq_getElem_cons (by rw [rvals_len]; exact hlt)]
        congr 1
        exact Option.some.inj ((List.getElem?_eq_getElem _).symm.trans hv)
      rw [hdrop, ev]
      by_cases q : x = l
      · subst q; simp only [upd_self]; rw [List.append_assoc]; rfl
      · rw [upd_ne q, upd_ne q]; dsimp only; rw [upd_ne q, upd_ne hx]
theorem CallTo.extend {l r : Addr} {acc : List Value} {lo hi : Int} {n : Nat} {Φ : Value → St → Prop} (hd : C.A.handled = none) (hl : σ.H l = some (.list acc)) (hr : σ.H r = some (.range lo hi)) (hn : hi = lo + n) (hpos : 0 < n) (h1 : -(2 ^ 62) ≤ lo) (h2 : lo + n < 2 ^ 62) (hz : acc.length + n ≤ 100000)
    (h : Φ .none ⟨σ.m, upd σ.H l (.list (acc ++ rvals lo n))⟩) : CallTo C (.builtin "list.extend") [.ref l, .ref r] σ Φ := fun vs' e s S => by
  subst hn
  obtain ⟨x, y, rfl, e1, e2⟩ := map_er2 e
  rw [er_ref e1, er_ref e2]
  obtain ⟨dd, t, u, v, hR⟩ := S.obj hr
  have hsl : sizeLine = 2 ^ 24 := rfl
  have hlr : l ≠ r := fun q => by rw [q, hr] at hl; cases hl
  obtain ⟨ws, hL, ew⟩ := list_is S hl
  have hsize : Builtin.Range.rangeSize lo (lo + n) 1 = n := by rw [rangeSize_one]; split <;> omega
  refine wpAny_call (codeAny_call_builtin PySem.F.slot_list_extend.plain PySem.F.entry_list_extend (PySem.F.slot_list_extend.check _ _ _ _ _ _ _ _ hL.typeIs (PySem.F.args_list_extend_2 _ _) ?_))
  show wpAny _ _ (Builtin.List.listExtendWith (.ref l) (.ref r) .none) _ _ _
  unfold Builtin.List.listExtendWith
  refine wpAny_bind (wpAny_typeOf (T := "range") ⟨_, hR, rfl⟩ ?_)
  have h1' : Builtin.List.listSameRef (.ref l) (.ref r) = false := by simp [Builtin.List.listSameRef, hlr]
  have h2' : (Value.type "range" == Value.type "list") = false := by decide
  have h3' : (Value.type "range" == Value.type "tuple") = false := by decide
  simp only [h1', h2', h3', Bool.or_false, Bool.false_eq_true, if_false]
  refine wpAny_bind (Tr.run (C := { C with A := C.A.in1 }) (MakesIter.range (C := { C with A := C.A.in1 }) hr h1 h2 (fun v σ' => ∃ it, v = .ref it ∧ σ.H it = none ∧ σ' = ⟨σ.m, upd σ.H it (.riter (lo + (0 : Nat)) ((n : Int) - (0 : Nat)))⟩) fun it hn => ⟨it, rfl, hn, rfl⟩) S fun itv σ₂ h₂ k₂ S₂ ⟨it, qi, hN, q2⟩ => ?_)
  subst q2
  rw [er_ref qi]
  have hir : r ≠ it := fun q => by rw [q, hN] at hr; cases hr
  have hil : l ≠ it := fun q => by rw [q, hN] at hl; cases hl
  obtain ⟨dd₂, t₂, u₂, v₂, hR₂⟩ := S₂.obj (show upd σ.H it _ r = _ by rw [upd_ne hir]; exact hr)
  refine wpAny_bind (wpAny_holding (wpAny_hint_range hR₂ hsize (by omega) ?_))
  rw [if_pos (by have : ((n : Int) != 0) = true := by simp; omega
                 simp [this])]
  refine wpAny_bind (wpAny_rule ?_)
  refine wpAny_bind ?_
  show wpAny _ _ (updateSeq l (·.push .none) >>= fun _ => updateSeq l (·.pop)) _ _ _
  have hl₂ : upd σ.H it (.riter (lo + (0 : Nat)) ((n : Int) - (0 : Nat))) l = some (.list acc) := by rw [upd_ne hil]; exact hl
  obtain ⟨dd₃, vs₃, c, ho, em⟩ := S₂.obj hl₂
  have hsz : vs₃.toArray.size = acc.length := by rw [List.size_toArray, ← em, List.length_map]
  refine wpAny_bind (wpAny_updateSeq ho rfl ?_ (by rw [hsz]; omega) (by show (vs₃.toArray.push .none).size ≤ sizeLine + 1; rw [Array.size_push, hsz]; omega))
  have hS₂ := Heap.get?_update_self (Obj.mapSeq (·.push Value.none)) ho rfl
  refine wpAny_updateSeq hS₂ rfl ?_ (by show (vs₃.toArray.push .none).size ≤ _; rw [Array.size_push, hsz]; omega) (by show ((vs₃.toArray.push .none).pop).size ≤ _; rw [Array.pop_push, hsz]; omega)
  have hS₃ := Heap.get?_update_self (Obj.mapSeq (·.pop)) hS₂ rfl
  have S₄ := S₂.set (o' := .list acc) (h' := (h₂.update l (Obj.mapSeq (·.push .none))).update l (Obj.mapSeq (·.pop))) hl₂ (fun _ _ => by simp) (fun _ _ => by simp)
    ⟨by rw [Heap.size_update, Heap.size_update], fun x hx => (Heap.get?_update_other _ _ (Ne.symm hx)).trans (Heap.get?_update_other _ _ (Ne.symm hx))⟩ (fun dd => ⟨vs₃, c + 1 + 1, by rw [hS₃]; simp [Obj.mapSeq], em⟩)
  rw [show upd (upd σ.H it (.riter (lo + (0 : Nat)) ((n : Int) - (0 : Nat)))) l (.list acc) = upd σ.H it (.riter (lo + (0 : Nat)) ((n : Int) - (0 : Nat))) from by
    funext x; by_cases q : x = l
    · subst q; rw [upd_self, hl₂]
    · rw [upd_ne q]] at S₄
  refine wpAny_pure ⟨plainId_quiet PySem.F.plain_extend_loop _, ext_loop (C := C) (n := n) (lo := lo) hd n 0 _ _ acc rfl (Nat.zero_le _) (upd_self _ _ _) hl₂ hz S₄ fun h' tk' σ' S' em' eH eN => ?_⟩
  refine ⟨σ', h', tk', rfl, S', ?_⟩
  have : σ' = ⟨σ.m, upd σ.H l (.list (acc ++ rvals lo n))⟩ := by
    obtain ⟨m', H'⟩ := σ'
    dsimp only at em' eH eN
    subst em'
    congr 1
    funext x
    by_cases q : x = it
    · subst q; rw [eN, upd_ne (Ne.symm hil), hN]
    · rw [eH x q]; simp only [List.drop_zero]
      by_cases q2 : x = l
      · subst q2; rw [upd_self, upd_self]
      · rw [upd_ne q2, upd_ne q2, upd_ne q]
  rw [this]; exact h
end
end Mine
end
section
set_option maxRecDepth 100000
set_option Elab.async false
set_option linter.unusedVariables false
namespace Mine
open PySem PySem.W PySem.Calls PyProof.Rows

theorem plain_upd_loop : plainId "dict.update.loop" = true := by decide +kernel
theorem entry_upd_loop : entryFor table "dict.update.loop" = some Builtin.«dict.update.loop» := entryFor_of_fast (by kernel_rfl)

inductive PairsAt (H : AH) : List Value → List (Str × Value) → Prop
  | nil : PairsAt H [] []
  | cons (T : Addr) (k : Str) (v : Value) (t : Tok) {vs : List Value} {es : List (Str × Value)} : H T = some (.tup [.str k t, v]) → PairsAt H vs es → PairsAt H (.ref T :: vs) ((k, v) :: es)
theorem PairsAt.mono {H H' : AH} {vs : List Value} {es : List (Str × Value)} (P : PairsAt H vs es) (k : ∀ T vs, H T = some (.tup vs) → H' T = some (.tup vs)) : PairsAt H' vs es := by
  induction P with
  | nil => exact .nil
  | cons T x v t h _ ih => exact .cons T x v t (k _ _ h) ih
theorem PairsAt.len {H : AH} {vs : List Value} {es : List (Str × Value)} (P : PairsAt H vs es) : vs.length = es.length := by
  induction P with
  | nil => rfl
  | cons T x v t h _ ih => simp [ih]
theorem stored_new {kvs : List (Str × Value)} {k : Str} {v : Value} (h : k ∉ kvs.map (·.1)) : stored kvs k v = kvs ++ [(k, v)] := by
  unfold stored
  rw [if_neg]
  intro q
  obtain ⟨x, hx, e⟩ := List.any_eq_true.mp q
  exact h (List.mem_map.mpr ⟨x, hx, of_decide_eq_true e⟩)
theorem valueAt_er {k : Str} : ∀ {kvs : List (Str × Value)}, (valueAt kvs k).map er = (kvs.map fun x => (x.1, er x.2)).lookup k
  | [] => rfl
  | y :: r => by
    have ih := valueAt_er (k := k) (kvs := r)
    unfold valueAt at ih ⊢
    simp only [List.find?_cons, List.map_cons, List.lookup_cons]
    by_cases h : y.1 = k
    · subst h; simp
    · have h' : (k == y.1) = false := by simpa using fun q => h q.symm
      simp only [decide_eq_false h, h']
      exact ih

section
variable {C : Cx} {σ : St}
/-- the pairs of a list or a tuple go into a dict -/
theorem dict_loop {A : Around} (hd : A.handled = none) {vals : List Value} {st : Nat → AO} {src : AH → Prop} (IO : IterOver { C with A := A.in1 } vals st src) (hst : ∀ i, (∀ p w es, st i ≠ .dict p w es) ∧ ∀ vs, st i ≠ .tup vs) {d it : Addr} {all : List (Str × Value)} (hnd : (all.map (·.1)).Nodup) (hz : all.length ≤ 100)
    (hsrc : ∀ H H' : AH, (∀ T o, H T = some o → (∀ i, o ≠ st i) → (∀ p w es, o ≠ .dict p w es) → H' T = some o) → src H → src H') {R : Result → Shared → Prop} : ∀ (k i : Nat) (s : Shared) (σ : St) (tk : Tok), vals.length - i = k → i ≤ vals.length → σ.H it = some (st i) → σ.H d = some (.dict C.prog C.w (all.take i)) → src σ.H → PairsAt σ.H (vals.drop i) (all.drop i) →
    Sat C.b C.L C.F s.heap σ → (∀ h tk σ', Sat C.b C.L C.F h σ' → σ'.m = σ.m → (∀ x, x ≠ it → σ'.H x = upd σ.H d (.dict C.prog C.w all) x) → σ'.H it = none → R (.ok (.ret .none)) { s with heap := h, toks := tk }) →
    codeAny (model C.prog C.w) A (.builtin "dict.update.loop" ⟨[.ref d, .ref it, .int i tk, .none], []⟩) R s := by
  intro k
  induction k with
  | zero =>
    intro i s σ tk hk hi h1 h2 hs hp S hR
    have hin : i = vals.length := by omega
    subst hin
    refine codeAny_builtin entry_upd_loop ?_
    rw [Around.under_plainId plain_upd_loop _]
    show wpAny _ A.in1 (pyNext (.ref it) >>= _) _ _ s
    refine wpAny_bind (Tr.run (C := { C with A := A.in1 }) (IO.done C.b C.L C.F σ it (fun r σ' => r = none ∧ σ' = ⟨σ.m, dropA σ.H it⟩) h1 hs ⟨rfl, rfl⟩) S fun r σ' h' tk' S' ⟨e1, e2⟩ => ?_)
    subst e2
    cases r with
    | some v => cases e1
    | none =>
      refine wpAny_bind (wpAny_pure (wpAny_pure (hR _ _ _ S' rfl (fun x hx => ?_) (by simp [dropA]))))
      have hl : all.length ≤ vals.length := by
        have := hp.len
        rw [List.length_drop, List.length_drop] at this
        omega
      rw [List.take_of_length_le hl] at h2
      show dropA σ.H it x = _
      rw [dropA_ne hx]
      by_cases q : x = d
      · subst q; rw [upd_self, h2]
      · rw [upd_ne q]
  | succ k ih =>
    intro i s σ tk hk hi h1 h2 hs hp S hR
    have hlt : i < vals.length := by omega
    have hit : d ≠ it := fun q => by rw [q, h1] at h2; exact (hst i).1 _ _ _ (Option.some.inj h2)
    refine codeAny_builtin entry_upd_loop ?_
    rw [Around.under_plainId plain_upd_loop _]
    show wpAny _ A.in1 (pyNext (.ref it) >>= _) _ _ s
    have hv : vals[i]? = some vals[i] := by simp [hlt]
    refine wpAny_bind (Tr.run (C := { C with A := A.in1 }) (IO.next C.b C.L C.F i σ it _ (fun r σ' => r = some vals[i] ∧ σ' = ⟨σ.m, upd σ.H it (st (i + 1))⟩) h1 hs hv ⟨rfl, rfl⟩) S fun r σ' h' tk' S' ⟨e1, e2⟩ => ?_)
    subst e2
    cases r with
    | none => cases e1
    | some v =>
      have ev : er v = vals[i] := Option.some.inj e1
      rw [List.drop_eq_getElem_cons hlt] at hp
      obtain ⟨T, kk, vv, tt, es, hT, hp', eT, eall⟩ : ∃ T kk vv tt es, σ.H T = some (.tup [.str kk tt, vv]) ∧ PairsAt σ.H (vals.drop (i + 1)) es ∧ vals[i] = .ref T ∧ all.drop i = (kk, vv) :: es := by
        generalize hX : vals[i] = X at hp
        generalize hY : vals.drop (i + 1) = Y at hp
        generalize hZ : all.drop i = Z at hp
        cases hp with
        | cons T kk vv tt hT hp' => exact ⟨T, kk, vv, tt, _, hT, hp', rfl, rfl⟩
      have hi2 : i < all.length := by
        rcases Nat.lt_or_ge i all.length with q | q
        · exact q
        · rw [List.drop_of_length_le q] at eall; cases eall
      have e3 : all[i] = (kk, vv) ∧ all.drop (i + 1) = es := by
        rw [List.drop_eq_getElem_cons hi2] at eall
        exact ⟨(List.cons.inj eall).1, (List.cons.inj eall).2⟩
      have hTit : T ≠ it := fun q => by rw [q, h1] at hT; exact (hst i).2 _ (Option.some.inj hT)
      have hTd : T ≠ d := fun q => by rw [q, h2] at hT; cases hT
      have hvT : v = .ref T := er_ref (ev.trans eT)
      subst hvT
      obtain ⟨vs', hTup, em⟩ := tup_isT S' (show upd σ.H it (st (i + 1)) T = _ by rw [upd_ne hTit]; exact hT)
      obtain ⟨ka, va, rfl, ek, evv⟩ := map_er2 em
      obtain ⟨kt, rfl⟩ := er_str ek
      have h2' : upd σ.H it (st (i + 1)) d = some (.dict C.prog C.w (all.take i)) := by rw [upd_ne hit]; exact h2
      obtain ⟨dd, hsys, kvs, hD, ekv⟩ := S'.obj h2'
      have hlen : kvs.length = (all.take i).length := by rw [← ekv, List.length_map]
      have hkeys : kvs.map (·.1) = (all.take i).map (·.1) := by rw [← ekv, List.map_map]; rfl
      have hnew : kk ∉ kvs.map (·.1) := by
        rw [hkeys]
        intro q
        have h5 : all.map (·.1) = (all.take i).map (·.1) ++ (all.drop i).map (·.1) := by rw [← List.map_append, List.take_append_drop]
        rw [h5, eall, List.nodup_append] at hnd
        exact hnd.2.2 kk q kk (by simp) rfl
      refine wpAny_bind (wpAny_holding ?_)
      obtain ⟨oT, hoT, hcT, nT, hdT⟩ := hTup
      refine wpAny_bind (wpAny_tryCatch ?_)
      unfold Builtin.Dict.pairItems
      refine wpAny_bind (wpAny_typeOf (T := "tuple") ⟨oT, hoT, hcT⟩ ?_)
      rw [if_pos (by decide)]
      refine wpAny_bind (wpAny_seqItems hoT hdT (wpAny_pure ?_))
      show wpAny _ _ (holding [Value.str kk kt, va] (dictSet d (.str kk kt) va)) _ _ _
      refine wpAny_holding (wpAny_dictSet_pairs (knd := PySem.strKind C.prog C.w) (k := kk) (strKind_is _ _ _ _) hD (fun h'' hD' hs' => ?_) (by rw [hlen, List.length_take]; have : sizeLine = 2 ^ 24 := rfl; omega))
      rw [stored_new hnew] at hD'
      have S'' := S'.set (o' := .dict C.prog C.w (all.take (i + 1))) h2' (fun _ _ => by simp) (fun _ _ => by simp) hs' (fun dd => ⟨hsys, _, hD', by
        rw [List.map_append, ekv, List.take_add_one, List.getElem?_eq_getElem hi2, e3.1, ← evv]; rfl⟩)
      have hupd : ∀ T vs, σ.H T = some (.tup vs) → upd (upd σ.H it (st (i + 1))) d (.dict C.prog C.w (all.take (i + 1))) T = some (.tup vs) := fun T vs q => by
        have q1 : T ≠ d := fun z => by rw [z, h2] at q; cases q
        have q2 : T ≠ it := fun z => by rw [z, h1] at q; exact (hst i).2 _ (Option.some.inj q)
        rw [upd_ne q1, upd_ne q2]; exact q
      have hsr : src (upd (upd σ.H it (st (i + 1))) d (.dict C.prog C.w (all.take (i + 1)))) := hsrc σ.H _ (fun T o q n1 n2 => by
        have q1 : T ≠ d := fun z => by rw [z, h2] at q; exact n2 _ _ _ (Option.some.inj q).symm
        have q2 : T ≠ it := fun z => by rw [z, h1] at q; exact n1 _ (Option.some.inj q).symm
        rw [upd_ne q1, upd_ne q2]; exact q) hs
      refine wpAny_pure ⟨plainId_quiet plain_upd_loop _, ?_⟩
      have := ih (i + 1) { s with heap := h'', toks := tk' + 1 } _ 0 (by omega) hlt (by dsimp only; rw [upd_ne (Ne.symm hit), upd_self]) (by dsimp only; rw [upd_self]) hsr (by rw [e3.2]; exact hp'.mono hupd) S'' (fun h tk σ' S₃ em' eH eN => ?_)
      · have e : ((i + 1 : Nat) : Int) = (i : Int) + 1 := by omega
        rw [e] at this; exact this
      refine hR h tk σ' S₃ em' (fun x hx => ?_) eN
      rw [eH x hx]
      by_cases q : x = d
      · subst q; rw [upd_self, upd_self]
      · rw [upd_ne q, upd_ne q]; dsimp only; rw [upd_ne q, upd_ne hx]

theorem sat_newDict {b h : Heap} {L : Addr} {F : AH} {σ : St} {K : Frag} {p : Program} {loose : List Str} (S : Sat b L F h σ) (G : Ground0 K p loose b) : (h.objs.size == sysModules) = false := by
  obtain ⟨mg, mb, T⟩ := G.top
  obtain ⟨o, es, ep, ho, _⟩ := T.g
  have := Heap.lt_size (S.keep ho)
  refine beq_eq_false_iff_ne.mpr fun q => ?_
  rw [q] at this
  exact absurd this (by decide)
theorem edict_dict {b h : Heap} {L a : Addr} {F : AH} {σ : St} (p : Program) (w : World) (S : Sat b L F h σ) (e : σ.H a = some .edict) : Sat b L F h ⟨σ.m, upd σ.H a (.dict p w [])⟩ :=
  S.set e (fun _ _ => by simp) (fun _ _ => by simp) ⟨rfl, fun _ _ => rfl⟩ fun dd => by
    obtain ⟨dd, h1, h2⟩ := S.obj e
    exact ⟨h1, [], ⟨_, _, 0, h2, ⟨rfl, rfl, rfl⟩, rfl, fun e he => absurd he (by simp), .nil, .nil⟩, rfl⟩
variable {K : Frag} {p : Program} {loose : List Str} {Φ : Value → St → Prop}
theorem Ev.edict {env : Env} {pos : Pos} (G : Ground0 K p loose C.b) (h : ∀ a, σ.H a = none → Φ (.ref a) ⟨σ.m, upd σ.H a .edict⟩) : Ev C env (.Dict [] [] pos) σ Φ := fun s S => by
  refine wpAny_Dict_empty ?_
  obtain ⟨S', hn⟩ := S.push (ob := { cls := .type "dict", data := .dict #[] }) (o := .edict) rfl (fun _ _ => by simp) fun dd => ⟨sat_newDict S G, Heap.get?_push_size _ rfl⟩
  exact ⟨_, _, _, rfl, S', h _ hn⟩
/-- dict of a list or a tuple of pairs -/
theorem tr_dict {a : Addr} {vals : List Value} {st : Nat → AO} {src : AH → Prop} {all : List (Str × Value)} (hd : C.A.handled = none) (G : Ground0 K p loose C.b) (IO : ∀ A, A.handled = none → IterOver { C with A := A } vals st src) (mk : ∀ A, ∀ σ : St, src σ.H → MakesIter { C with A := A } (.ref a) σ (st 0))
    (hst : ∀ i, (∀ p w es, st i ≠ .dict p w es) ∧ ∀ vs, st i ≠ .tup vs) (hnd : (all.map (·.1)).Nodup) (hz : all.length ≤ 100) (hsrc : ∀ H H' : AH, (∀ T o, H T = some o → (∀ i, o ≠ st i) → (∀ p w es, o ≠ .dict p w es) → H' T = some o) → src H → src H')
    (hsrc' : ∀ H : AH, src H → ∃ o, H a = some o ∧ (∀ i, o ≠ st i) ∧ (∀ p w es, o ≠ .dict p w es)) (hkeys : ∀ (A : Around) (E : Value → Shared → Prop) (s : Shared) (σ : St) (Q : Option Value → Shared → Prop), A.handled = none → Sat C.b C.L C.F s.heap σ → src σ.H → (∀ h' tk, (∀ b o, s.heap.get? b = some o → h'.get? b = some o) → Q none { s with heap := h', toks := tk }) →
      wpAny (model C.prog C.w) A (getAttr? (.ref a) "keys") Q E s) (hty : ∀ (s : Shared) (σ : St), Sat C.b C.L C.F s.heap σ → src σ.H → ∃ T, s.TypeIs (.ref a) T ∧ (Value.type T != .type "dict") = true)
    (hs : src σ.H) (hp : PairsAt σ.H vals all) (h : ∀ d, σ.H d = none → Φ (.ref d) ⟨σ.m, upd σ.H d (.dict C.prog C.w all)⟩) : Tr C (PySem.call (.type "dict") [.ref a]) σ fun v σ' => Φ (er v) σ' := fun s S => by
  refine callType_codes (Q₁ := fun obj s₁ => obj = .ref s.heap.objs.size ∧ s₁ = { s with heap := s.heap.push { cls := .type "dict", data := .dict #[] } }) PySem.F.kt_called_dict (PySem.F.kt_typeCall_dict_1 _) PySem.F.entry_dict_init (kt_code_dict_new _ ⟨rfl, rfl⟩) ?_
  rintro obj s₁ ⟨rfl, rfl⟩
  obtain ⟨S', hn⟩ := S.push (ob := { cls := .type "dict", data := .dict #[] }) (o := .edict) rfl (fun _ _ => by simp) fun dd => ⟨sat_newDict S G, Heap.get?_push_size _ rfl⟩
  have S'' := edict_dict C.prog C.w S' (upd_self _ _ _)
  dsimp only at S''
  rw [upd_upd] at S''
  generalize hD : s.heap.objs.size = d at *
  generalize hH : s.heap.push { cls := .type "dict", data := .dict #[] } = h₁ at *
  clear S'
  have hT : ({ s with heap := h₁ } : Shared).TypeIs (.ref d) "dict" := by
    obtain ⟨dd, hsys, kvs, hDo, _⟩ := S''.obj (upd_self _ _ _)
    exact hDo.typeIs
  refine ⟨hT, PySem.F.args_dict_init_2 _ _, ?_⟩
  unfold Builtin.«dict.__init__»
  refine wpAny_bind ?_
  unfold Builtin.Dict.selfAndRest
  refine wpAny_bind (wpAny_notOrdered_dict hT ?_)
  show wpAny _ _ (pure (d, [Value.ref a])) _ _ _
  refine wpAny_pure ?_
  show wpAny _ _ (Builtin.Dict.updateFrom "dict.__init__" d (.ref a) [] .none) _ _ _
  unfold Builtin.Dict.updateFrom
  have keep0 : ∀ T o, σ.H T = some o → upd σ.H d (.dict C.prog C.w []) T = some o := fun T o q => by
    rw [upd_ne (fun z => by rw [z, hn] at q; cases q)]; exact q
  have hs1 : src (upd σ.H d (.dict C.prog C.w [])) := hsrc _ _ (fun T o q _ _ => keep0 T o q) hs
  obtain ⟨T, hTT, hne⟩ := hty { s with heap := h₁ } _ S'' hs1
  refine wpAny_bind (wpAny_typeOf hTT ?_)
  rw [if_pos hne]
  refine wpAny_bind (hkeys _ _ _ _ _ hd S'' hs1 fun h₂ tk₂ hk => ?_)
  have S₂ := S''.all hk
  refine wpAny_ite_split (fun _ => ?_) (fun q => absurd rfl q)
  refine wpAny_bind (wpAny_rule ?_)
  refine wpAny_bind (Tr.run (C := { C with A := C.A.in1.in1 }) (s := { s with heap := h₂, toks := tk₂ }) (mk C.A.in1.in1 _ hs1 (fun v σ' => ∃ it, v = .ref it ∧ upd σ.H d (.dict C.prog C.w []) it = none ∧ σ' = ⟨σ.m, upd (upd σ.H d (.dict C.prog C.w [])) it (st 0)⟩) fun it hn => ⟨it, rfl, hn, rfl⟩) S₂ fun itv σ₃ h₃ k₃ S₃ ⟨it, qi, hN, q3⟩ => ?_)
  subst q3
  rw [er_ref qi]
  have keep1 : ∀ T o, σ.H T = some o → upd (upd σ.H d (.dict C.prog C.w [])) it (st 0) T = some o := fun T o q => by
    rw [upd_ne (fun z => by rw [z] at q; rw [keep0 _ _ q] at hN; cases hN)]; exact keep0 T o q
  have hdit : d ≠ it := fun z => by rw [← z, upd_self] at hN; cases hN
  refine wpAny_pure ⟨plainId_quiet plain_upd_loop _, dict_loop (C := C) (A := C.A.in1) (vals := vals) (st := st) (src := src) hd (IO _ hd) hst (all := all) hnd hz hsrc vals.length 0 { s with heap := h₃, toks := k₃ } _ 0 rfl (Nat.zero_le _) (upd_self _ _ _) (by dsimp only; rw [upd_ne hdit, upd_self]; rfl) (hsrc _ _ (fun T o q _ _ => keep1 T o q) hs)
    (by rw [List.drop_zero, List.drop_zero]; exact hp.mono fun T vs q => keep1 T _ q) S₃ fun h₄ tk₄ σ₄ S₄ em eH eN => ?_⟩
  refine ⟨rfl, σ₄, h₄, tk₄, rfl, S₄, ?_⟩
  have : σ₄ = ⟨σ.m, upd σ.H d (.dict C.prog C.w all)⟩ := by
    obtain ⟨m', H'⟩ := σ₄
    dsimp only at em eH eN
    subst em
    congr 1
    funext x
    by_cases q : x = it
    · subst q; rw [eN, upd_ne (Ne.symm hdit)]; rw [upd_ne (Ne.symm hdit)] at hN; exact hN.symm
    · rw [eH x q]
      by_cases q2 : x = d
      · subst q2; rw [upd_self, upd_self]
      · rw [upd_ne q2, upd_ne q2, upd_ne q, upd_ne q2]
  rw [this]
  exact h d hn
theorem CallTo.dictL {a : Addr} {vals : List Value} {all : List (Str × Value)} (hd : C.A.handled = none) (G : Ground0 K p loose C.b) (hl : σ.H a = some (.list vals)) (hp : PairsAt σ.H vals all) (hnd : (all.map (·.1)).Nodup) (hz : all.length ≤ 100)
    (h : ∀ d, σ.H d = none → Φ (.ref d) ⟨σ.m, upd σ.H d (.dict C.prog C.w all)⟩) : CallTo C (.type "dict") [.ref a] σ Φ := fun vs' e => by
  obtain ⟨x, rfl, e1⟩ := map_er1 e
  rw [er_ref e1]
  refine tr_dict (src := fun H => H a = some (.list vals)) (st := .liter a) hd G (fun A hA => IterOver.list hA a vals) (fun A σ hs => MakesIter.list hs) (fun i => ⟨by simp, by simp⟩) hnd hz (fun H H' k q => k _ _ q (by simp) (by simp)) (fun H q => ⟨_, q, by simp, by simp⟩) ?_ ?_ hl hp h
  · intro A E s σ Q hA S hs k
    obtain ⟨dd, vs', n, h1, _⟩ := S.obj hs
    exact keys_list h1 hA k
  · intro s σ S hs
    obtain ⟨vs', hL, _⟩ := list_is S hs
    exact ⟨_, hL.typeIs, by decide⟩
theorem CallTo.dictT {a : Addr} {vals : List Value} {all : List (Str × Value)} (hd : C.A.handled = none) (G : Ground0 K p loose C.b) (hl : σ.H a = some (.tup vals)) (hp : PairsAt σ.H vals all) (hnd : (all.map (·.1)).Nodup) (hz : all.length ≤ 100)
    (h : ∀ d, σ.H d = none → Φ (.ref d) ⟨σ.m, upd σ.H d (.dict C.prog C.w all)⟩) : CallTo C (.type "dict") [.ref a] σ Φ := fun vs' e => by
  obtain ⟨x, rfl, e1⟩ := map_er1 e
  rw [er_ref e1]
  refine tr_dict (src := fun H => H a = some (.tup vals)) (st := .titer a) hd G (fun A hA => IterOver.tup hA a vals) (fun A σ hs => MakesIter.tup hs) (fun i => ⟨by simp, by simp⟩) hnd hz (fun H H' k q => k _ _ q (by simp) (by simp)) (fun H q => ⟨_, q, by simp, by simp⟩) ?_ ?_ hl hp h
  · intro A E s σ Q hA S hs k
    obtain ⟨dd, vs', n, h1, _⟩ := S.obj hs
    exact keys_tuple h1 hA k
  · intro s σ S hs
    obtain ⟨vs', hL, _⟩ := tup_isT S hs
    obtain ⟨o, ho, hc, _⟩ := hL
    exact ⟨_, ⟨o, ho, hc⟩, by decide⟩
/-! looking into a dict -/
theorem CmpH.inDict {d : Addr} {es : List (Str × Value)} {k : Str} {t : Tok} (hd : σ.H d = some (.dict C.prog C.w es)) : CmpH C .In (.str k t) (.ref d) σ (es.lookup k).isSome := fun va vb ea eb s S => by
  rw [er_ref eb]
  obtain ⟨u, rfl⟩ := er_str ea
  obtain ⟨dd, hsys, kvs, hD, ek⟩ := S.obj hd
  refine wpAny_in_of (knd := PySem.strKind C.prog C.w) (strKind_is _ _ k u) hsys hD.mapOf ⟨σ, s.heap, _, rfl, S, ?_, rfl⟩
  rw [← ek, ← valueAt_er, Option.isSome_map]
theorem ItemTo.dict {value slc : Expr} {d : Addr} {es : List (Str × Value)} {k : Str} {t : Tok} {v : Value} (hd : σ.H d = some (.dict C.prog C.w es)) (hx : es.lookup k = some v) (h : Φ v σ)
    (hs : ∀ o i, subscripted slc false o i = operate [o, i] (getItem o i) := by intro _ _; rfl) : ItemTo C value slc (.ref d) (.str k t) σ Φ := fun vo vi eo ei s S => by
  rw [er_ref eo]
  obtain ⟨u, rfl⟩ := er_str ei
  obtain ⟨dd, hsys, kvs, hD, ek⟩ := S.obj hd
  rw [← ek, ← valueAt_er] at hx
  obtain ⟨v', hv, e⟩ := Option.map_eq_some_iff.mp hx
  exact tail_any hD.typeIs slot_dict_getitem.lookup (wpAny_getItem_of (knd := PySem.strKind C.prog C.w) (strKind_is _ _ k u) hD.mapOf hv ⟨σ, s.heap, _, rfl, S, by dsimp only; rw [e]; exact h⟩) (hs _ _)
/-! an empty dict is walked -/
theorem IterOver.edict (hd : C.A.handled = none) (d : Addr) : IterOver C [] (fun _ => .ditr d) (fun H => H d = some .edict) where
  noinst := fun _ _ _ => by simp
  mono := fun H H' k e => k.at e
  next := fun b L F i σ it v Φ h1 h2 hv h s S => by simp at hv
  done := fun b L F σ it Φ h1 h2 h s S => by
    obtain ⟨dd, hit⟩ := S.obj h1
    obtain ⟨dd, hsys, ho⟩ := S.obj h2
    have hD : s.heap.DictAt (PySem.strKind C.prog C.w) d [] 0 := ⟨_, _, ho, ⟨rfl, rfl, rfl⟩, rfl, fun e he => absurd he (by simp), .nil, .nil⟩
    refine wpAny_pyNext_dict_end (kvs := []) hd hit hD rfl fun h' hs => ?_
    exact ⟨⟨σ.m, dropA σ.H it⟩, h', _, rfl, S.drop h1 (fun _ _ => by simp) hs, h⟩
  self := fun b L F i σ it Φ h1 h s S => by
    obtain ⟨dd, hit⟩ := S.obj h1
    exact wpAny_pyIter_keyiter hit ⟨σ, s.heap, _, rfl, S, h⟩
theorem MakesIter.edict {d : Addr} (hl : σ.H d = some .edict) : MakesIter C (.ref d) σ (.ditr d) := fun Φ h s S => by
  obtain ⟨dd, hsys, ho⟩ := S.obj hl
  have hD : s.heap.DictAt (PySem.strKind C.prog C.w) d [] 0 := ⟨_, _, ho, ⟨rfl, rfl, rfl⟩, rfl, fun e he => absurd he (by simp), .nil, .nil⟩
  refine wpAny_pyIter_dict hsys hD ?_
  obtain ⟨S', hn⟩ := S.push (ob := { cls := .type "dict_keyiterator", data := .fields #[.ref d, .int 0 0, .int 0 0, .int 0 0] }) (o := .ditr d) rfl (fun _ _ => by simp) fun dd => ⟨_, Heap.get?_push_size _ rfl, rfl, rfl⟩
  exact ⟨_, _, _, rfl, S', h _ hn⟩
end
end Mine
end
section
set_option maxRecDepth 100000
set_option Elab.async false
set_option linter.unusedVariables false
namespace Mine
open PySem PySem.W PySem.Calls PyProof.Rows

/-! Lists of pairs of ints -/
inductive IntPairs (H : AH) : List Value → List (Int × Int) → Prop
  | nil : IntPairs H [] []
  | cons (T : Addr) (a b : Int) {vs : List Value} {ps : List (Int × Int)} : H T = some (.tup [.int a 0, .int b 0]) → IntPairs H vs ps → IntPairs H (.ref T :: vs) ((a, b) :: ps)
theorem IntPairs.mono {H H' : AH} {vs : List Value} {ps : List (Int × Int)} (P : IntPairs H vs ps) (k : ∀ T vs, H T = some (.tup vs) → H' T = some (.tup vs)) : IntPairs H' vs ps := by
  induction P with
  | nil => exact .nil
  | cons T a b h _ ih => exact .cons T a b (k _ _ h) ih
theorem IntPairs.len {H : AH} {vs : List Value} {ps : List (Int × Int)} (P : IntPairs H vs ps) : vs.length = ps.length := by
  induction P with
  | nil => rfl
  | cons T a b h _ ih => simp [ih]
theorem IntPairs.at {H : AH} {vs : List Value} {ps : List (Int × Int)} (P : IntPairs H vs ps) : ∀ {i : Nat} {v : Value}, vs[i]? = some v → ∃ T p, v = .ref T ∧ ps[i]? = some p ∧ H T = some (.tup [.int p.1 0, .int p.2 0]) := by
  induction P with
  | nil => intro i v h; simp at h
  | cons T a b h _ ih =>
    intro i v hv
    cases i with
    | zero => simp at hv; exact ⟨T, (a, b), hv.symm, rfl, h⟩
    | succ i => exact ih (by simpa using hv)
theorem IntPairs.same {H : AH} {vs : List Value} {ps : List (Int × Int)} (P : IntPairs H vs ps) : ∀ {vs' : List Value}, vs'.map er = vs → vs' = vs := by
  induction P with
  | nil => intro vs' e; cases vs' with
    | nil => rfl
    | cons _ _ => cases e
  | cons T a b h _ ih =>
    intro vs' e
    cases vs' with
    | nil => cases e
    | cons v r =>
      simp only [List.map_cons, List.cons.injEq] at e
      rw [er_ref e.1, ih e.2]
theorem IntPairs.app {H : AH} {vs : List Value} {ps : List (Int × Int)} (P : IntPairs H vs ps) {vs' : List Value} {ps' : List (Int × Int)} (P' : IntPairs H vs' ps') : IntPairs H (vs ++ vs') (ps ++ ps') := by
  induction P with
  | nil => exact P'
  | cons T a b h _ ih => exact .cons T a b h ih

theorem updF_of {d : Addr} {o : Obj} : ∀ {l : List (Addr × Obj)}, (l.map (·.1)).Nodup → (d, o) ∈ l → ∃ g, UpdF d o l g ∧ ∀ o', (d, o') ∈ g o' ∧ ∀ p ∈ l, p.1 ≠ d → p ∈ g o'
  | [], _, hm => nomatch hm
  | p :: r, hn, hm => by
    obtain ⟨h1, h2⟩ := List.nodup_cons.mp hn
    rcases List.mem_cons.mp hm with e | hm
    · subst e
      exact ⟨_, .head fun q hq e => h1 (List.mem_map.mpr ⟨q, hq, e⟩), fun o' => ⟨List.mem_cons_self, fun q hq hne => by
        rcases List.mem_cons.mp hq with rfl | hq
        · exact absurd rfl hne
        · exact List.mem_cons_of_mem _ hq⟩⟩
    · have hne : p.1 ≠ d := fun e => h1 (List.mem_map.mpr ⟨_, hm, e.symm⟩)
      obtain ⟨g, U, a⟩ := updF_of h2 hm
      exact ⟨_, .tail hne U, fun o' => ⟨List.mem_cons_of_mem _ (a o').1, fun q hq hq' => by
        rcases List.mem_cons.mp hq with rfl | hq
        · exact List.mem_cons_self
        · exact List.mem_cons_of_mem _ ((a o').2 q hq hq')⟩⟩
theorem updF_again {d : Addr} {o o' : Obj} {l : List (Addr × Obj)} {g : Obj → List (Addr × Obj)} (U : UpdF d o l g) : UpdF d o' (g o') g := by
  induction U with
  | head h => exact .head h
  | tail h _ ih => exact .tail h ih

/-! a sort that finds all in order -/
theorem asc_run {cmp : Nat → Nat → (Bool → Shared → Prop) → Shared → Prop} {N : Nat} {s : Shared} (h : ∀ i C, 1 ≤ i → i < N → C false s → cmp i (i - 1) C s) {G : Nat → Shared → Prop} (hG : G N s) : ∀ f n, 1 ≤ n → n + f = N → (kas_asc (List.toArray (List.range N)) f n).kasWp cmp G s
  | 0, n, _, e => by
    have : n = N := by omega
    subst this
    exact hG
  | f + 1, n, h1, e => by
    have g1 : (List.toArray (List.range N)).getD n 0 = n := by simp [Array.getD, show n < N by omega]
    have g2 : (List.toArray (List.range N)).getD (n - 1) 0 = n - 1 := by simp [Array.getD, show n - 1 < N by omega]
    show cmp _ _ _ s
    rw [g1, g2]
    refine h n _ h1 (by omega) ?_
    exact asc_run h hG f (n + 1) (by omega) (by omega)
theorem sort_run {cmp : Nat → Nat → (Bool → Shared → Prop) → Shared → Prop} {N : Nat} {s : Shared} (h1 : 1 ≤ N) (h : ∀ i C, 1 ≤ i → i < N → C false s → cmp i (i - 1) C s) {Q : Array Nat → Shared → Prop} (hQ : Q (List.toArray (List.range N)) s) : (kas_sort N).kasWp cmp Q s := by
  unfold kas_sort
  rw [KasT.kasWp_bind]
  unfold kas_count
  rw [KasT.kasWp_bind]
  refine asc_run h ?_ (N - 1) 1 (Nat.le_refl _) (by omega)
  have e : (N == N) = true := by simp
  rw [if_pos e]
  show KasT.kasWp cmp (if N < N then _ else KasT.ret _) Q s
  rw [if_neg (Nat.lt_irrefl _)]
  exact hQ

section
variable {C : Cx} {σ : St} {l : Addr} {vs : List Value} {ps : List (Int × Int)}
theorem IntPairs.tups {b h : Heap} {L : Addr} {F : AH} {σ : St} (S : Sat b L F h σ) (P : IntPairs σ.H vs ps) : ∃ fs, KatTups h vs fs ∧ fs.length = vs.length ∧ ∀ f ∈ fs, ∃ a t, f = Value.int a t := by
  induction P with
  | nil => exact ⟨[], KatTups.nil, rfl, fun f hf => nomatch hf⟩
  | cons T a b hT _ ih =>
    obtain ⟨fs, k, e, a'⟩ := ih
    obtain ⟨dd, vs', n, ho, em⟩ := S.obj hT
    obtain ⟨x, y, rfl, e1, e2⟩ := map_er2 em
    obtain ⟨t, rfl⟩ := er_int e1
    exact ⟨.int a t :: fs, KatTups.cons ho rfl rfl (by simp) k, by simp [e], fun f hf => by
      rcases List.mem_cons.mp hf with rfl | hf
      · exact ⟨_, _, rfl⟩
      · exact a' _ hf⟩
theorem IntPairs.noLt {b h : Heap} {L : Addr} {F : AH} {σ : St} {A : Around} {prog : Program} {w : World} {s : Shared} (S : Sat b L F s.heap σ) (P : IntPairs σ.H vs ps) (asc : ∀ (i : Nat) p q, ps[i]? = some p → ps[i + 1]? = some q → p.1 < q.1) {i : Nat} (h1 : 1 ≤ i) (h2 : i < vs.length) {R : Bool → Shared → Prop} (hR : R false s) :
    kas_ask prog w A (tuples' true) vs i (i - 1) R s := by
  obtain ⟨j, rfl⟩ : ∃ j, i = j + 1 := ⟨i - 1, by omega⟩
  rw [Nat.add_sub_cancel]
  have g1 : vs[j + 1]? = some vs[j + 1] := by simp [h2]
  have g2 : vs[j]? = some vs[j] := by simp [show j < vs.length by omega]
  obtain ⟨T, p, eT, ep, hT⟩ := P.at g1
  obtain ⟨U, q, eU, eq, hU⟩ := P.at g2
  have hlt := asc j _ _ eq ep
  unfold kas_ask
  have d1 : vs.getD (j + 1) Value.none = .ref T := by rw [List.getD_eq_getElem?_getD, g1, eT]; rfl
  have d2 : vs.getD j Value.none = .ref U := by rw [List.getD_eq_getElem?_getD, g2, eU]; rfl
  rw [d1, d2]
  obtain ⟨dd, vs', n, ho, em⟩ := S.obj hT
  obtain ⟨x, y, rfl, e1, e2⟩ := map_er2 em
  obtain ⟨t, rfl⟩ := er_int e1
  obtain ⟨t2, rfl⟩ := er_int e2
  obtain ⟨dd', ws', n', ho', em'⟩ := S.obj hU
  obtain ⟨x', y', rfl, e1', e2'⟩ := map_er2 em'
  obtain ⟨t', rfl⟩ := er_int e1'
  refine kat_lt ho rfl ho' rfl ?_
  refine kat_cons (wpAny_eqBool_int ?_)
  have e : (p.1 == q.1) = false := by simp; omega
  rw [e]
  refine kat_no (oneLt_int ?_)
  have e : decide (p.1 < q.1) = false := by simp; omega
  rw [e]; exact hR
variable {Φ : Value → St → Prop}
theorem CallTo.sortPairs (hl : σ.H l = some (.list vs)) (P : IntPairs σ.H vs ps) (h1 : 2 ≤ vs.length) (h64 : vs.length < 64) (asc : ∀ (i : Nat) p q, ps[i]? = some p → ps[i + 1]? = some q → p.1 < q.1) (h : Φ .none σ) : CallTo C (.builtin "list.sort") [.ref l] σ Φ := fun vs' e s S => by
  obtain ⟨x, rfl, e1⟩ := map_er1 e
  rw [er_ref e1]
  obtain ⟨m', dd, Fm, em, R, D⟩ := id S.ex
  obtain ⟨hb, hL, ws, n, hO, ew⟩ := R.own _ _ (orF_l hl)
  have hws := P.same ew
  subst hws
  obtain ⟨g, U, hg⟩ := updF_of (full_nodup C.b C.L s.heap) (mem_full.mpr ⟨hO, hL, hb⟩)
  have stay : ∀ {h' : Heap} {o' : Obj}, Fr C.b C.L h' m' → News C.b C.L h' (g o') → ∀ x ob, x ≠ l → x ≠ C.L → s.heap.get? x = some ob → h'.get? x = some ob := fun {h' o'} F' N' x ob hx hxL q =>
    stays_full (P := fun z => z = l) Fm F' N' (fun p hp hne => (hg o').2 p hp hne) (fun z hz => hz ▸ hb) x ob hx hxL q
  refine kat_lsort (vs := ws) Fm (full_news C.b C.L s.heap) U (by simp) h1 h64 fun e1 h' F' N' => ?_
  have Pd : ∀ T vs, σ.H T = some (.tup vs) → upd σ.H l (.list []) T = some (.tup vs) := fun T vs q => by
    rw [upd_ne (fun z => by rw [z, hl] at q; cases q)]; exact q
  have S' : Sat C.b C.L C.F h' ⟨σ.m, upd σ.H l (.list [])⟩ := ⟨m', dd, F', em, upd_orF ▸ R.set (orF_l hl) (fun _ _ => by simp) (fun _ _ => by simp) (fun x ob hx hxL q => stay F' N' x ob hx hxL q) ⟨[], e1, (N' _ (hg _).1).1, rfl⟩, D.upd (D.at hl)⟩
  have P' := P.mono Pd
  obtain ⟨fs, kt, kl, ki⟩ := P'.tups S'
  refine kat_kind (T := .type "int") kt (by rw [kl]; omega) (fun v hv => by obtain ⟨a, t, rfl⟩ := ki v hv; exact Looks.of_pure rfl) rfl ?_
  have et : (Value.type "int" != Value.type "tuple") = true := by decide
  rw [et]
  refine sort_run (by omega) (fun i C' hi1 hi2 hC => P'.noLt (h := h') S' asc hi1 hi2 hC) ?_
  refine KasFin.intro F' N' (updF_again U) fun h'' c F'' N'' => ?_
  have hout : ((List.toArray (List.range ws.length)).toList.map fun i => ws.getD i Value.none) = ws := by
    apply List.ext_getElem
    · simp
    · intro i h1 h2
      simp [List.getD, h2]
  rw [hout] at N''
  refine ⟨σ, h'', _, rfl, ?_, h⟩
  have := R.set (o' := .list ws) (orF_l hl) (fun _ _ => by simp) (fun _ _ => by simp) (fun x ob hx hxL q => stay F'' N'' x ob hx hxL q) ⟨ws, c, (N'' _ (hg _).1).1, ew⟩
  have e2 : upd (orF σ.H C.F) l (.list ws) = orF σ.H C.F := by
    funext y
    by_cases q : y = l
    · subst q; rw [upd_self]; exact (orF_l hl).symm
    · rw [upd_ne q]
  rw [e2] at this
  exact ⟨m', dd, F'', em, this, D⟩
end
end Mine
end
section
set_option maxRecDepth 100000
set_option Elab.async false
set_option linter.unusedVariables false
namespace Mine
open PySem PySem.W PySem.Calls PyProof.Rows
section
variable {C : Cx} {σ : St} {l : Addr} {vs : List Value} {Φ : Value → St → Prop} {K : Frag} {p : Program} {loose : List Str}
theorem CallTo.sort1 {v : Value} (hl : σ.H l = some (.list [v])) (h : Φ .none σ) : CallTo C (.builtin "list.sort") [.ref l] σ Φ := fun vs' e s S => by
  obtain ⟨x, rfl, e1⟩ := map_er1 e
  rw [er_ref e1]
  obtain ⟨dd, ws, n, ho, ew⟩ := S.obj hl
  obtain ⟨v', rfl, ev⟩ := map_er1 ew
  have hL : s.heap.IsList l #[v'] := ⟨_, ho, rfl, n, rfl⟩
  refine wpAny_call_entry PyProof.Rows.slot_list_sort hL.typeIs PyProof.Rows.entry_list_sort ?_ (PyProof.Rows.args_list_sort _)
  rw [list_sort_plain]
  obtain ⟨e1, ho1⟩ : ∃ e1, (s.heap.update l (Obj.mapSeq fun _ => (#[] : Array Value))).get? l = some (seqObj "list" #[] e1) := ⟨_, get?_update_seq ho fun _ => #[]⟩
  have hsl : sizeLine = 2 ^ 24 := rfl
  refine wpAny_bind (listItems_at ho rfl ?_)
  refine wpAny_bind (listUpdate_at ho rfl ?_ (by show 1 ≤ _; omega) (Nat.zero_le _))
  refine wpAny_bind (seqEpoch_at ho1 rfl ?_)
  refine wpAny_bind (wpAny_newTuple ?_ (by show 1 ≤ _; omega))
  refine wpAny_bind (wpAny_newList ?_ (Nat.zero_le _))
  refine wpAny_holding ?_
  show wpAny (model C.prog C.w) _ _ _ _ { s with heap := ((s.heap.update l (Obj.mapSeq fun _ => (#[] : Array Value))).push (seqObj "tuple" #[v'] 0)).push (seqObj "list" #[] 0) }
  have hn2 : (#[v'] : Array Value).size < 2 := by simp
  dsimp only
  rw [if_pos hn2, if_pos hn2]
  refine wpAny_bind (wpAny_pure ?_)
  refine wpAny_bind (wpAny_pure ?_)
  dsimp only
  have ho3 : (((s.heap.update l (Obj.mapSeq fun _ => (#[] : Array Value))).push (seqObj "tuple" #[v'] 0)).push (seqObj "list" #[] 0)).get? l = some (seqObj "list" #[] e1) := Heap.get?_push_of_some _ (Heap.get?_push_of_some _ ho1)
  refine wpAny_bind (seqEpoch_at ho3 rfl ?_)
  have hz : Array.map (fun x => x.snd) (arrOf (SortSt.mk' general' ((#[v'] : Array Value).zip #[v']) #[] 7 none)) = #[v'] := by simp [arrOf, SortSt.mk']
  rw [hz]
  refine wpAny_bind (listUpdate_at ho3 rfl ?_ (Nat.zero_le _) (by show 1 ≤ _; omega))
  show wpAny _ _ (if (e1 != e1) = true then _ else _) _ _ _
  rw [if_neg (by simp)]
  refine wpAny_pure ⟨.none, rfl, ?_⟩
  have S1 := S.set (o' := .list []) hl (fun _ _ => by simp) (fun _ _ => by simp) (Heap.SameBut.update ..) (fun dd => ⟨[], e1, ho1, rfl⟩)
  have S3 := (S1.push_ (ob := seqObj "tuple" #[v'] 0)).push_ (ob := seqObj "list" #[] 0)
  have S4 := S3.set (o' := .list [v]) (h' := (((s.heap.update l (Obj.mapSeq fun _ => (#[] : Array Value))).push (seqObj "tuple" #[v'] 0)).push (seqObj "list" #[] 0)).update l (Obj.mapSeq fun _ => (#[v'] : Array Value))) (upd_self _ _ _) (fun _ _ => by simp) (fun _ _ => by simp) (Heap.SameBut.update ..)
    (fun dd => ⟨[v'], _, get?_update_seq ho3 fun _ => #[v'], by simp [ev]⟩)
  refine ⟨_, _, _, rfl, S4, ?_⟩
  have e2 : upd (upd σ.H l (.list [])) l (.list [v]) = σ.H := by
    rw [upd_upd]
    funext y
    by_cases q : y = l
    · subst q; rw [upd_self, hl]
    · rw [upd_ne q]
  dsimp only
  rw [e2]; exact h

/-! sorted, of strs -/
def strVals (ss : List Str) : List Value := ss.map fun x => .str x 0
theorem strs_are : ∀ {vs : List Value} {ss : List Str}, vs.map er = strVals ss → StrsAre vs ss
  | [], [], _ => .nil
  | v :: vs, x :: ss, h => by
    simp only [strVals, List.map_cons, List.cons.injEq] at h
    obtain ⟨t, rfl⟩ := er_str h.1
    exact .cons x t (strs_are h.2)
theorem strs_er : ∀ {vs : List Value} {ss : List Str}, StrsAre vs ss → vs.map er = strVals ss
  | _, _, .nil => rfl
  | _, _, .cons x t r => by simp only [List.map_cons, strVals, strs_er r]; rfl
def IsSorted (ss out : List Str) : Prop := out.Perm ss ∧ sortedS out = true
theorem CallTo.sorted {ss : List Str} (hl : σ.H l = some (.list (strVals ss))) (h64 : ss.length < 64) (h : ∀ out a, IsSorted ss out → σ.H a = none → Φ (.ref a) ⟨σ.m, upd σ.H a (.list (strVals out))⟩) : CallTo C (.builtin "sorted") [.ref l] σ Φ := fun vs' e s S => by
  obtain ⟨x, rfl, e1⟩ := map_er1 e
  rw [er_ref e1]
  obtain ⟨m', dd, Fm, em, R, D⟩ := id S.ex
  obtain ⟨ws, hL, ew⟩ := list_is S hl
  refine sorted_N_str Fm (full_news C.b C.L s.heap) hL (strs_are ew) (by rw [← List.length_map (f := er), ew]; simpa [strVals] using h64) fun h' vs' ss' ep F' N' h1 h2 h3 => ?_
  obtain ⟨x1, x2, x3⟩ := N' _ (.head _)
  have hn : s.heap.get? (s.heap.objs.size + 1) = none := by
    cases q : s.heap.get? (s.heap.objs.size + 1) with
    | none => rfl
    | some x => exact absurd (Heap.lt_size q) (Nat.not_lt.mpr (Nat.le_succ _))
  obtain ⟨R', hH⟩ := R.add (o := .list (strVals ss')) hn x3 x2 (fun _ _ => by simp) (fun y o hy q => stays_full (P := fun _ => False) Fm F' N' (fun p hp _ => .tail _ hp) (fun _ z => z.elim) y o (fun z => z) hy q) ⟨vs', ep, x1, strs_er h1⟩
  exact ⟨⟨σ.m, upd σ.H (s.heap.objs.size + 1) (.list (strVals ss'))⟩, h', _, rfl, ⟨m', dd, F', em, upd_orF ▸ R', D.upd (orF_n hH).2⟩, h _ _ ⟨h2, h3⟩ (orF_n hH).1⟩

/-! isinstance -/
theorem CallTo.isInt {i : Int} {t : Tok} (h : Φ (.bool true) σ) : CallTo C (.builtin "isinstance") [.int i t, .type "int"] σ Φ := fun vs' e s S => by
  obtain ⟨x, y, rfl, e1, e2⟩ := map_er2 e
  obtain ⟨u, rfl⟩ := er_int e1
  rw [er_type e2]
  exact PySem.IsiPair.int_int ⟨σ, s.heap, _, rfl, S, h⟩
theorem CallTo.isInst (G : Ground0 K p loose C.b) {a Cl : Addr} {fs : List (Str × Value)} (ha : σ.H a = some (.inst Cl fs)) (e : isIn K (.ref Cl) Cl = true) (h : Φ (.bool true) σ) : CallTo C (.builtin "isinstance") [.ref a, .ref Cl] σ Φ := fun vs' e s S => by
  obtain ⟨x, y, rfl, e1, e2⟩ := map_er2 e
  rw [er_ref e1, er_ref e2]
  obtain ⟨dx, es, n, I, hf, _⟩ := inst_at S ha
  refine isi_call (K := K) (G.inK.keeps fun x o => S.keep) (fun M => I.type) (by assumption) (by simp) ⟨σ, s.heap, _, rfl, S, h⟩
/-! dict of an empty list -/
theorem CallTo.dict0 {a : Addr} (hd : C.A.handled = none) (G : Ground0 K p loose C.b) (hl : σ.H a = some (.list [])) (h : ∀ d, σ.H d = none → Φ (.ref d) ⟨σ.m, upd σ.H d .edict⟩) : CallTo C (.type "dict") [.ref a] σ Φ := fun vs' e s S => by
  obtain ⟨x, rfl, e1⟩ := map_er1 e
  rw [er_ref e1]
  refine callType_codes (Q₁ := fun obj s₁ => obj = .ref s.heap.objs.size ∧ s₁ = { s with heap := s.heap.push { cls := .type "dict", data := .dict #[] } }) PySem.F.kt_called_dict (PySem.F.kt_typeCall_dict_1 _) PySem.F.entry_dict_init (kt_code_dict_new _ ⟨rfl, rfl⟩) ?_
  rintro obj s₁ ⟨rfl, rfl⟩
  obtain ⟨S'', hn⟩ := S.push (ob := { cls := .type "dict", data := .dict #[] }) (o := .edict) rfl (fun _ _ => by simp) fun dd => ⟨sat_newDict S G, Heap.get?_push_size _ rfl⟩
  have hT : ({ s with heap := s.heap.push { cls := .type "dict", data := .dict #[] } } : Shared).TypeIs (.ref s.heap.objs.size) "dict" := ⟨_, Heap.get?_push_size _ rfl, rfl⟩
  generalize hD : s.heap.objs.size = d at *
  generalize hH : s.heap.push { cls := .type "dict", data := .dict #[] } = h₁ at *
  refine ⟨hT, PySem.F.args_dict_init_2 _ _, ?_⟩
  unfold Builtin.«dict.__init__»
  refine wpAny_bind ?_
  unfold Builtin.Dict.selfAndRest
  refine wpAny_bind (wpAny_notOrdered_dict hT ?_)
  show wpAny _ _ (pure (d, [Value.ref a])) _ _ _
  refine wpAny_pure ?_
  show wpAny _ _ (Builtin.Dict.updateFrom "dict.__init__" d (.ref a) [] .none) _ _ _
  unfold Builtin.Dict.updateFrom
  have keep0 : ∀ T o, σ.H T = some o → upd σ.H d .edict T = some o := fun T o q => by
    rw [upd_ne (fun z => by rw [z, hn] at q; cases q)]; exact q
  obtain ⟨dd, vs', n, h1, _⟩ := S''.obj (keep0 _ _ hl)
  refine wpAny_bind (wpAny_typeOf (T := "list") ⟨_, h1, rfl⟩ ?_)
  rw [if_pos (by decide)]
  refine wpAny_bind (keys_list h1 hd fun h₂ tk₂ hk => ?_)
  have S₂ := S''.all hk
  refine wpAny_ite_split (fun _ => ?_) (fun q => absurd rfl q)
  refine wpAny_bind (wpAny_rule ?_)
  refine wpAny_bind (Tr.run (C := { C with A := C.A.in1.in1 }) (s := { s with heap := h₂, toks := tk₂ }) (MakesIter.list (C := { C with A := C.A.in1.in1 }) (keep0 _ _ hl) (fun v σ' => ∃ it, v = .ref it ∧ upd σ.H d .edict it = none ∧ σ' = ⟨σ.m, upd (upd σ.H d .edict) it (.liter a 0)⟩) fun it hn => ⟨it, rfl, hn, rfl⟩) S₂ fun itv σ₃ h₃ k₃ S₃ ⟨it, qi, hN, q3⟩ => ?_)
  subst q3
  rw [er_ref qi]
  have keep1 : ∀ T o, σ.H T = some o → upd (upd σ.H d .edict) it (.liter a 0) T = some o := fun T o q => by
    rw [upd_ne (fun z => by rw [z] at q; rw [keep0 _ _ q] at hN; cases hN)]; exact keep0 T o q
  have hdit : d ≠ it := fun z => by rw [← z, upd_self] at hN; cases hN
  refine wpAny_pure ⟨plainId_quiet plain_upd_loop _, ?_⟩
  refine codeAny_builtin entry_upd_loop ?_
  rw [Around.under_plainId plain_upd_loop _]
  have IO := IterOver.list (C := { C with A := C.A.in1.in1 }) hd a []
  show wpAny _ _ (pyNext (.ref it) >>= _) _ _ { s with heap := h₃, toks := k₃ }
  refine wpAny_bind (Tr.run (C := { C with A := C.A.in1.in1 }) (IO.done C.b C.L C.F _ it (fun r σ' => r = none ∧ σ' = ⟨σ.m, upd σ.H d .edict⟩) (upd_self _ _ _) (keep1 _ _ hl) ⟨rfl, by rw [drop_upd hN]⟩) S₃ fun r σ' h' tk' S' ⟨e1, e2⟩ => ?_)
  subst e2
  cases r with
  | some v => cases e1
  | none => exact wpAny_bind (wpAny_pure (wpAny_pure ⟨rfl, _, _, _, rfl, S', h d hn⟩))
end
end Mine
end
section
set_option maxRecDepth 100000
set_option Elab.async false
set_option linter.unusedVariables false
namespace Mine
open PySem PySem.W PySem.Calls PyProof.Rows

theorem putM_self {m : Str → Option Value} {x : Str} {v : Value} : putM m x v x = some v := by simp [putM]
theorem putM_ne {m : Str → Option Value} {x y : Str} {v : Value} (h : (y == x) = false) : putM m x v y = m y := by
  have : y ≠ x := by simpa using h
  simp [putM, this]
/-- a comprehension whose elements leave the heap as it is -/
theorem fm_congr {α β : Type} {f g : α → Option β} : ∀ {l : List α}, (∀ i ∈ l, f i = g i) → l.filterMap f = l.filterMap g
  | [], _ => rfl
  | a :: r, h => by
    rw [List.filterMap_cons, List.filterMap_cons, h a (.head _), fm_congr fun i hi => h i (.tail _ hi)]
theorem filterMap_map {α : Type} (R : List α) (g : α → Value) : (List.range R.length).filterMap (fun i => (R[i]?).map g) = R.map g := by
  have : ∀ (R : List α) k, (List.range' k R.length).filterMap (fun i => (R[i - k]?).map g) = R.map g := by
    intro R
    induction R with
    | nil => intro k; rfl
    | cons a r ih =>
      intro k
      simp only [List.length_cons, List.range'_succ, List.filterMap_cons, Nat.sub_self, List.getElem?_cons_zero, Option.map_some, List.map_cons]
      congr 1
      rw [← ih (k + 1)]
      refine fm_congr fun i hi => ?_
      have : k + 1 ≤ i := by have := List.mem_range'_1.mp hi; omega
      have e : i - k = (i - (k + 1)) + 1 := by omega
      rw [e, List.getElem?_cons_succ]
  have h := this R 0
  rw [List.range_eq_range']
  simpa using h
theorem filterMap_succ {f : Nat → Option Value} {i : Nat} : (List.range (i + 1)).filterMap f = (List.range i).filterMap f ++ (f i).toList := by
  rw [List.range_succ, List.filterMap_append]
  cases h : f i <;> simp [h]
theorem filterMap_len {f : Nat → Option Value} {i : Nat} : ((List.range i).filterMap f).length ≤ i := by
  have := List.length_filterMap_le f (List.range i)
  simpa using this
section
variable {C : Cx} {env : Env} {σ : St} {Φ : Value → St → Prop} {pos : Pos} {K : Frag} {p : Program} {loose : List Str}
def PureElt (C : Cx) (env : Env) (elt : Expr) (ifs : List Expr) (σ : St) (r : Option Value) : Prop := CompElt C env elt ifs σ fun r' σ' => r' = r ∧ σ'.H = σ.H
theorem PureElt.one {elt : Expr} {v : Value} (h : Pe C env elt σ v) : PureElt C env elt [] σ (some v) := Tr.mono h fun a σ' ⟨e, e2⟩ => ⟨by rw [e], by rw [e2]⟩
theorem PureElt.yes {elt c : Expr} {v : Value} (h1 : Pt C env c σ true) (h : Pe C env elt σ v) : PureElt C env elt [c] σ (some v) := It.mono h1 fun b σ' ⟨e, e2⟩ => by
  subst e e2
  exact Tr.mono h fun a σ' ⟨e, e2⟩ => ⟨by rw [e], by rw [e2]⟩
theorem PureElt.no {elt c : Expr} (h1 : Pt C env c σ false) : PureElt C env elt [c] σ none := It.mono h1 fun b σ' ⟨e, e2⟩ => by
  subst e e2
  exact ⟨rfl, rfl⟩
theorem PureElt.ifs {elt c : Expr} {v : Value} {x : Bool} (h1 : Pt C env c σ x) (h : x = true → Pe C env elt σ v) : PureElt C env elt [c] σ (if x then some v else none) := by
  cases x
  · exact .no h1
  · exact .yes h1 (h rfl)
/-- names in a comprehension, told by a list -/
theorem EnvIs.comp1 {L L' : Addr} {names : List (Str × NameKind)} {cl cl' : List (Str × Addr)} {scope : Scope} (E : EnvIs env L names cl) (hk : scope.kind = .function) (names' : List (Str × NameKind))
    (h : (names'.all fun y => (y.2 != .free && scope.names.lookup y.1 == some y.2) || (y.2 == .cell && scope.names.lookup y.1 == some .free && names.lookup y.1 == some .cell)) = true) : EnvIs (compEnvC scope cl' L' env) L' names' cl' :=
  E.comp hk names' fun x k hx => by
    have := List.all_eq_true.mp h _ (mem_of_lookup hx)
    simp only [Bool.or_eq_true, Bool.and_eq_true, bne_iff_ne, ne_eq, beq_iff_eq] at this
    rcases this with ⟨h1, h2⟩ | ⟨⟨h1, h2⟩, h3⟩
    · exact .inl ⟨h1, h2⟩
    · exact .inr ⟨h1, h2, h3⟩
theorem Ev.compE (G : Ground0 K p loose C.b) (hd : C.A.handled = none) (names' : List (Str × NameKind)) {L₀ : Addr} {names : List (Str × NameKind)} {cl₀ : List (Str × Addr)} (E : EnvIs env L₀ names cl₀) {elt iter : Expr} {x : Str} {px : Pos} {ifs : List Expr} {scope : Scope} {cl : List (Str × Addr)} (hifs : ifs.length ≤ 1)
    (hclos : closureFor scope env = pure cl) (hcell : ∀ y ∈ scope.names, y.2 ≠ .cell) (hkind : scope.kind = .function) (hnames : ∀ y ∈ scope.names, y.2 = .local → scope.names.lookup y.1 = some .local) (hx : scope.names.lookup x = some .local)
    (hnn : (names'.all fun y => (y.2 != .free && scope.names.lookup y.1 == some y.2) || (y.2 == .cell && scope.names.lookup y.1 == some .free && names.lookup y.1 == some .cell)) = true)
    (h : Ev C env iter σ fun xv σ₁ => ∃ a vals st src, xv = .ref a ∧ IterOver C vals st src ∧ src σ₁.H ∧ MakesIter C (.ref a) σ₁ (st 0) ∧ vals.length ≤ sizeLine ∧ ∃ J : Nat → List Value → St → Prop, J 0 [] ⟨fun _ => none, σ₁.H⟩ ∧ (∀ i acc σ', J i acc σ' → src σ'.H) ∧
      (∀ b L F i v acc σ' env', Ground0 K p loose b → EnvIs env' L names' cl → vals[i]? = some v → J i acc σ' → CompElt { C with b := b, L := L, F := F } env' elt ifs ⟨putM σ'.m x v, σ'.H⟩ fun r σ'' => match r with | some w => J (i + 1) (acc ++ [w]) σ'' | none => J (i + 1) acc σ'') ∧
      ∀ acc σ', J vals.length acc σ' → ∀ n, σ'.H n = none → Φ (.ref n) ⟨σ₁.m, upd σ'.H n (.list acc)⟩)
    (hs : ∀ x, foldedSetIterable iter env x = pure x := by intro _; rfl) : Ev C env (.ListComp elt [⟨.Name x px, iter, ifs, 0⟩] scope pos) σ Φ :=
  Ev.comp G hd hifs hclos hcell hkind hnames hx (Ev.mono h fun xv σ₁ ⟨a, vals, st, src, q, IO, h1, mk, hz, J, j0, js, turn, fin⟩ => ⟨a, vals, st, src, q, IO, h1, mk, hz, J, j0, js, fun b L F i v acc σ' Gb hv hJ => turn b L F i v acc σ' _ Gb (E.comp1 hkind names' hnn) hv hJ, fin⟩) hs
theorem Ev.compP (G : Ground0 K p loose C.b) (hd : C.A.handled = none) (names' : List (Str × NameKind)) {L₀ : Addr} {names : List (Str × NameKind)} {cl₀ : List (Str × Addr)} (E : EnvIs env L₀ names cl₀) {elt iter : Expr} {x : Str} {px : Pos} {ifs : List Expr} {scope : Scope} {cl : List (Str × Addr)} (hifs : ifs.length ≤ 1)
    (hclos : closureFor scope env = pure cl) (hcell : ∀ y ∈ scope.names, y.2 ≠ .cell) (hkind : scope.kind = .function) (hnames : ∀ y ∈ scope.names, y.2 = .local → scope.names.lookup y.1 = some .local) (hx : scope.names.lookup x = some .local)
    (hnn : (names'.all fun y => (y.2 != .free && scope.names.lookup y.1 == some y.2) || (y.2 == .cell && scope.names.lookup y.1 == some .free && names.lookup y.1 == some .cell)) = true)
    (h : Ev C env iter σ fun xv σ₁ => ∃ a vals st src f, xv = .ref a ∧ IterOver C vals st src ∧ src σ₁.H ∧ MakesIter C (.ref a) σ₁ (st 0) ∧ vals.length ≤ sizeLine ∧
      (∀ b L F i v m env', Ground0 K p loose b → EnvIs env' L names' cl → vals[i]? = some v → PureElt { C with b := b, L := L, F := F } env' elt ifs ⟨putM m x v, σ₁.H⟩ (f i)) ∧
      ∀ n, σ₁.H n = none → Φ (.ref n) ⟨σ₁.m, upd σ₁.H n (.list ((List.range vals.length).filterMap f))⟩)
    (hs : ∀ x, foldedSetIterable iter env x = pure x := by intro _; rfl) : Ev C env (.ListComp elt [⟨.Name x px, iter, ifs, 0⟩] scope pos) σ Φ := by
  refine Ev.compE G hd names' E hifs hclos hcell hkind hnames hx hnn (Ev.mono h fun xv σ₁ ⟨a, vals, st, src, f, q, IO, hs, mk, hz, turn, fin⟩ => ?_) hs
  refine ⟨a, vals, st, src, q, IO, hs, mk, hz, fun i acc σ' => σ'.H = σ₁.H ∧ acc = (List.range i).filterMap f, ⟨rfl, rfl⟩, fun i acc σ' e => e.1 ▸ hs, fun b L F i v acc σ' env' Gb Ee hv ⟨e1, e2⟩ => ?_, fun acc σ' ⟨e1, e2⟩ n hn => ?_⟩
  · rw [e1]
    have T := turn b L F i v σ'.m env' Gb Ee hv
    have stp : ∀ r' (σ'' : St), (r' = f i ∧ σ''.H = σ₁.H) → (match r' with | some w => σ''.H = σ₁.H ∧ acc ++ [w] = (List.range (i + 1)).filterMap f | none => σ''.H = σ₁.H ∧ acc = (List.range (i + 1)).filterMap f) := fun r' σ'' ⟨hr, hH⟩ => by
      subst hr
      rw [filterMap_succ, e2]
      cases f i with
      | none => exact ⟨hH, by simp⟩
      | some w => exact ⟨hH, by simp⟩
    match ifs, hifs, T with
    | [], _, T => exact Tr.mono T fun v σ'' q => stp _ _ q
    | [c], _, T =>
      refine Tr.mono T fun b σ'' q => ?_
      cases b with
      | false => exact stp none σ'' q
      | true => exact Tr.mono q fun v σ₃ q => stp (some _) σ₃ q
  · rw [e2, e1]; exact fin n (e1 ▸ hn)
theorem Ev.compPL (G : Ground0 K p loose C.b) (hd : C.A.handled = none) (names' : List (Str × NameKind)) {L₀ : Addr} {names : List (Str × NameKind)} {cl₀ : List (Str × Addr)} (E : EnvIs env L₀ names cl₀) {elt iter : Expr} {x : Str} {px : Pos} {ifs : List Expr} {scope : Scope} {cl : List (Str × Addr)} (hifs : ifs.length ≤ 1)
    (hclos : closureFor scope env = pure cl) (hcell : ∀ y ∈ scope.names, y.2 ≠ .cell) (hkind : scope.kind = .function) (hnames : ∀ y ∈ scope.names, y.2 = .local → scope.names.lookup y.1 = some .local) (hx : scope.names.lookup x = some .local)
    (hnn : (names'.all fun y => (y.2 != .free && scope.names.lookup y.1 == some y.2) || (y.2 == .cell && scope.names.lookup y.1 == some .free && names.lookup y.1 == some .cell)) = true)
    (h : Ev C env iter σ fun xv σ₁ => ∃ a vals f, xv = .ref a ∧ σ₁.H a = some (.list vals) ∧ vals.length ≤ sizeLine ∧
      (∀ b L F i v m env', Ground0 K p loose b → EnvIs env' L names' cl → vals[i]? = some v → PureElt { C with b := b, L := L, F := F } env' elt ifs ⟨putM m x v, σ₁.H⟩ (f i)) ∧
      ∀ n, σ₁.H n = none → Φ (.ref n) ⟨σ₁.m, upd σ₁.H n (.list ((List.range vals.length).filterMap f))⟩)
    (hs : ∀ x, foldedSetIterable iter env x = pure x := by intro _; rfl) : Ev C env (.ListComp elt [⟨.Name x px, iter, ifs, 0⟩] scope pos) σ Φ :=
  Ev.compP G hd names' E hifs hclos hcell hkind hnames hx hnn (Ev.mono h fun xv σ₁ ⟨a, vals, f, q, hl, hz, turn, fin⟩ => ⟨a, vals, _, _, f, q, IterOver.list hd a vals, hl, MakesIter.list hl, hz, turn, fin⟩) hs
theorem Ev.compPR (G : Ground0 K p loose C.b) (hd : C.A.handled = none) (names' : List (Str × NameKind)) {L₀ : Addr} {names : List (Str × NameKind)} {cl₀ : List (Str × Addr)} (E : EnvIs env L₀ names cl₀) {elt iter : Expr} {x : Str} {px : Pos} {ifs : List Expr} {scope : Scope} {cl : List (Str × Addr)} (hifs : ifs.length ≤ 1)
    (hclos : closureFor scope env = pure cl) (hcell : ∀ y ∈ scope.names, y.2 ≠ .cell) (hkind : scope.kind = .function) (hnames : ∀ y ∈ scope.names, y.2 = .local → scope.names.lookup y.1 = some .local) (hx : scope.names.lookup x = some .local)
    (hnn : (names'.all fun y => (y.2 != .free && scope.names.lookup y.1 == some y.2) || (y.2 == .cell && scope.names.lookup y.1 == some .free && names.lookup y.1 == some .cell)) = true)
    (h : Ev C env iter σ fun xv σ₁ => ∃ a lo n f, xv = .ref a ∧ σ₁.H a = some (.range lo (lo + (n : Nat))) ∧ -1000 ≤ lo ∧ lo ≤ 1000 ∧ n ≤ 100000 ∧
      (∀ b L F (i : Nat) m env', Ground0 K p loose b → EnvIs env' L names' cl → i < n → PureElt { C with b := b, L := L, F := F } env' elt ifs ⟨putM m x (.int (lo + i) 0), σ₁.H⟩ (f i)) ∧
      ∀ l, σ₁.H l = none → Φ (.ref l) ⟨σ₁.m, upd σ₁.H l (.list ((List.range n).filterMap f))⟩)
    (hs : ∀ x, foldedSetIterable iter env x = pure x := by intro _; rfl) : Ev C env (.ListComp elt [⟨.Name x px, iter, ifs, 0⟩] scope pos) σ Φ :=
  Ev.compP G hd names' E hifs hclos hcell hkind hnames hx hnn (Ev.mono h fun xv σ₁ ⟨a, lo, n, f, q, hl, h1, h2, h3, turn, fin⟩ => ⟨a, rvals lo n, _, _, f, q, IterOver.range hd lo n, trivial, MakesIter.range hl (by omega) (by omega), by rw [rvals_len]; exact len_k h3,
    fun b L F i v m env' Gb Ee hv => by obtain ⟨h4, rfl⟩ := rvals_get hv; exact turn b L F i m env' Gb Ee h4, by rw [rvals_len]; exact fin⟩) hs
/-- loops over lists and ranges -/
theorem Ex.forL {Φ : Flow → St → Prop} {x : Str} {px pos : Pos} {iter : Expr} {body : List Stmt} {names : List (Str × NameKind)} {cl : List (Str × Addr)} (hd : C.A.handled = none) (E : EnvIs env C.L names cl) (hn : names.lookup x = some .local)
    (h : Ev C env iter σ fun xv σ₁ => ∃ a vals, xv = .ref a ∧ σ₁.H a = some (.list vals) ∧ ∃ I : Nat → St → Prop, I 0 σ₁ ∧ (∀ i σ', I i σ' → σ'.H a = some (.list vals)) ∧
      (∀ F i v σ', vals[i]? = some v → I i σ' → Exs { C with F := F } env body ⟨putM σ'.m x v, σ'.H⟩ fun f σ'' => match f with | .next => I (i + 1) σ'' | .cont => I (i + 1) σ'' | .brk => Φ .next σ'' | .ret v => Φ (.ret v) σ'') ∧
      ∀ σ', I vals.length σ' → Φ .next σ')
    (hs : ∀ x, foldedSetIterable iter env x = pure x := by intro _; rfl) : Ex C env (.For (.Name x px) iter body [] pos) σ Φ :=
  Ex.for_ hd E.kind (E.kinds _ _ hn) E.loc (Ev.mono h fun xv σ₁ ⟨a, vals, q, hl, I, h0, hI, turn, fin⟩ => ⟨a, vals, _, _, q, IterOver.list hd a vals, hl, MakesIter.list hl, I, h0, hI, turn, fin⟩) hs
theorem Ex.forTu {Φ : Flow → St → Prop} {x : Str} {px pos : Pos} {iter : Expr} {body : List Stmt} {names : List (Str × NameKind)} {cl : List (Str × Addr)} (hd : C.A.handled = none) (E : EnvIs env C.L names cl) (hn : names.lookup x = some .local)
    (h : Ev C env iter σ fun xv σ₁ => ∃ a vals, xv = .ref a ∧ σ₁.H a = some (.tup vals) ∧ ∃ I : Nat → St → Prop, I 0 σ₁ ∧ (∀ i σ', I i σ' → σ'.H a = some (.tup vals)) ∧
      (∀ F i v σ', vals[i]? = some v → I i σ' → Exs { C with F := F } env body ⟨putM σ'.m x v, σ'.H⟩ fun f σ'' => match f with | .next => I (i + 1) σ'' | .cont => I (i + 1) σ'' | .brk => Φ .next σ'' | .ret v => Φ (.ret v) σ'') ∧
      ∀ σ', I vals.length σ' → Φ .next σ')
    (hs : ∀ x, foldedSetIterable iter env x = pure x := by intro _; rfl) : Ex C env (.For (.Name x px) iter body [] pos) σ Φ :=
  Ex.for_ hd E.kind (E.kinds _ _ hn) E.loc (Ev.mono h fun xv σ₁ ⟨a, vals, q, hl, I, h0, hI, turn, fin⟩ => ⟨a, vals, _, _, q, IterOver.tup hd a vals, hl, MakesIter.tup hl, I, h0, hI, turn, fin⟩) hs
theorem Ex.forR {Φ : Flow → St → Prop} {x : Str} {px pos : Pos} {iter : Expr} {body : List Stmt} {names : List (Str × NameKind)} {cl : List (Str × Addr)} (hd : C.A.handled = none) (E : EnvIs env C.L names cl) (hn : names.lookup x = some .local)
    (h : Ev C env iter σ fun xv σ₁ => ∃ a lo n, xv = .ref a ∧ σ₁.H a = some (.range lo (lo + (n : Nat))) ∧ -1000 ≤ lo ∧ lo ≤ 1000 ∧ n ≤ 100000 ∧ ∃ I : Nat → St → Prop, I 0 σ₁ ∧
      (∀ F (i : Nat) σ', i < n → I i σ' → Exs { C with F := F } env body ⟨putM σ'.m x (.int (lo + i) 0), σ'.H⟩ fun f σ'' => match f with | .next => I (i + 1) σ'' | .cont => I (i + 1) σ'' | .brk => Φ .next σ'' | .ret v => Φ (.ret v) σ'') ∧
      ∀ σ', I n σ' → Φ .next σ')
    (hs : ∀ x, foldedSetIterable iter env x = pure x := by intro _; rfl) : Ex C env (.For (.Name x px) iter body [] pos) σ Φ :=
  Ex.for_ hd E.kind (E.kinds _ _ hn) E.loc (Ev.mono h fun xv σ₁ ⟨a, lo, n, q, hl, h1, h2, h3, I, h0, turn, fin⟩ => ⟨a, rvals lo n, _, _, q, IterOver.range hd lo n, trivial, MakesIter.range hl (by omega) (by omega), I, h0, fun _ _ _ => trivial,
    fun F i v σ' hv hI => by obtain ⟨h4, rfl⟩ := rvals_get hv; exact turn F i σ' h4 hI, by rw [rvals_len]; exact fin⟩) hs
theorem Ex.for2L {Φ : Flow → St → Prop} {x y : Str} {px py tp pos : Pos} {kk : Nat} {iter : Expr} {body : List Stmt} {names : List (Str × NameKind)} {cl : List (Str × Addr)} (hd : C.A.handled = none) (E : EnvIs env C.L names cl) (hx : names.lookup x = some .local) (hy : names.lookup y = some .local)
    (h : Ev C env iter σ fun xv σ₁ => ∃ a vals, xv = .ref a ∧ σ₁.H a = some (.list vals) ∧ ∃ I : Nat → St → Prop, I 0 σ₁ ∧ (∀ i σ', I i σ' → σ'.H a = some (.list vals)) ∧
      (∀ F i v σ', vals[i]? = some v → I i σ' → ∃ T u w, v = .ref T ∧ σ'.H T = some (.tup [u, w]) ∧ Exs { C with F := F } env body ⟨putM (putM σ'.m x u) y w, σ'.H⟩ fun f σ'' => match f with | .next => I (i + 1) σ'' | .cont => I (i + 1) σ'' | .brk => Φ .next σ'' | .ret v => Φ (.ret v) σ'') ∧
      ∀ σ', I vals.length σ' → Φ .next σ')
    (hs : ∀ x, foldedSetIterable iter env x = pure x := by intro _; rfl) : Ex C env (.For (.Tuple [.Name x px, .Name y py] kk tp) iter body [] pos) σ Φ :=
  Ex.forT (Ev.mono h fun xv σ₁ ⟨a, vals, q, hl, I, h0, hI, turn, fin⟩ => ⟨a, vals, _, _, q, IterOver.list hd a vals, NoGo.list, hl, MakesIter.list hl, I, h0, hI, fun F i v σ' hv hI => by
    obtain ⟨T, u, w, rfl, hT, B⟩ := turn F i v σ' hv hI
    exact ⟨⟨T, rfl⟩, _, fun v' e => tr_assign2 hd E.kind (E.kinds _ _ hx) (E.kinds _ _ hy) E.loc e hT rfl, B⟩, fin⟩) hs
theorem Ex.for2T {Φ : Flow → St → Prop} {x y : Str} {px py tp pos : Pos} {kk : Nat} {iter : Expr} {body : List Stmt} {names : List (Str × NameKind)} {cl : List (Str × Addr)} (hd : C.A.handled = none) (E : EnvIs env C.L names cl) (hx : names.lookup x = some .local) (hy : names.lookup y = some .local)
    (h : Ev C env iter σ fun xv σ₁ => ∃ a vals, xv = .ref a ∧ σ₁.H a = some (.tup vals) ∧ ∃ I : Nat → St → Prop, I 0 σ₁ ∧ (∀ i σ', I i σ' → σ'.H a = some (.tup vals)) ∧
      (∀ F i v σ', vals[i]? = some v → I i σ' → ∃ T u w, v = .ref T ∧ σ'.H T = some (.tup [u, w]) ∧ Exs { C with F := F } env body ⟨putM (putM σ'.m x u) y w, σ'.H⟩ fun f σ'' => match f with | .next => I (i + 1) σ'' | .cont => I (i + 1) σ'' | .brk => Φ .next σ'' | .ret v => Φ (.ret v) σ'') ∧
      ∀ σ', I vals.length σ' → Φ .next σ')
    (hs : ∀ x, foldedSetIterable iter env x = pure x := by intro _; rfl) : Ex C env (.For (.Tuple [.Name x px, .Name y py] kk tp) iter body [] pos) σ Φ :=
  Ex.forT (Ev.mono h fun xv σ₁ ⟨a, vals, q, hl, I, h0, hI, turn, fin⟩ => ⟨a, vals, _, _, q, IterOver.tup hd a vals, NoGo.tup, hl, MakesIter.tup hl, I, h0, hI, fun F i v σ' hv hI => by
    obtain ⟨T, u, w, rfl, hT, B⟩ := turn F i v σ' hv hI
    exact ⟨⟨T, rfl⟩, _, fun v' e => tr_assign2 hd E.kind (E.kinds _ _ hx) (E.kinds _ _ hy) E.loc e hT rfl, B⟩, fin⟩) hs
/-- the name that was stored last -/
theorem Pe.lm {names : List (Str × NameKind)} {cl : List (Str × Addr)} {x : Str} {m : Str → Option Value} {v : Value} {H : AH} (E : EnvIs env C.L names cl) (hn : names.lookup x = some .local) (hd : (x == ("__debug__" : Str)) = false) : Pe C env (.Name x pos) ⟨putM m x v, H⟩ v := Pe.l E hn putM_self hd
theorem CompElt.one {elt : Expr} {Ψ : Option Value → St → Prop} (h : Ev C env elt σ fun v σ' => Ψ (some v) σ') : CompElt C env elt [] σ Ψ := h
end
end Mine
end
section
set_option maxRecDepth 100000
set_option Elab.async false
set_option linter.unusedVariables false
namespace Mine
open PySem PySem.W PySem.Calls PyProof.Rows
@[irreducible] noncomputable def KK (P : Params) : Frag := heapK P
@[irreducible] noncomputable def fnAt (P : Params) (a : Addr) : FuncData := match (KK P).lookup a with | some ⟨_, _, .func f, _⟩ => f | _ => default
abbrev Gr (P : Params) (b : Heap) : Prop := Ground0 (KK P) Mine.viewP (looseW Mine.viewP looseP) b
def n_ends_of : List (Str × NameKind) := [("pair", .local), ("greatest", .local), ("low", .local), ("high", .local), ("min", .globalImplicit), ("max", .globalImplicit)]
theorem f_ends_of (P : Params) : FnIs (KK P) 73 (fnAt P 73) (bodyF 5) n_ends_of (fun _ => []) := ⟨⟨.type "function", none, #[], by kernel_rfl⟩, by kernel_rfl, by kernel_rfl, by kernel_rfl, by kernel_rfl, by kernel_rfl, by kernel_rfl, fun _ => by kernel_rfl, by kernel_rfl, by kernel_rfl, by kernel_rfl⟩
def n_plain_set : List (Str × NameKind) := [("some", .local), ("greatest", .local), ("pairs", .local), ("pair", .local), ("ends", .local), ("out", .local), ("low", .local), ("high", .local), ("ends_of", .globalImplicit), ("len", .globalImplicit), ("max", .globalImplicit), ("tuple", .globalImplicit)]
theorem f_plain_set (P : Params) : FnIs (KK P) 80 (fnAt P 80) (bodyF 6) n_plain_set (fun _ => []) := ⟨⟨.type "function", none, #[], by kernel_rfl⟩, by kernel_rfl, by kernel_rfl, by kernel_rfl, by kernel_rfl, by kernel_rfl, by kernel_rfl, fun _ => by kernel_rfl, by kernel_rfl, by kernel_rfl, by kernel_rfl⟩
def n_settled : List (Str × NameKind) := [("some", .local), ("at", .local), ("range", .globalImplicit), ("len", .globalImplicit), ("SetFault", .globalImplicit), ("plain_set", .globalImplicit)]
theorem f_settled (P : Params) : FnIs (KK P) 87 (fnAt P 87) (bodyF 7) n_settled (fun _ => []) := ⟨⟨.type "function", none, #[], by kernel_rfl⟩, by kernel_rfl, by kernel_rfl, by kernel_rfl, by kernel_rfl, by kernel_rfl, by kernel_rfl, fun _ => by kernel_rfl, by kernel_rfl, by kernel_rfl, by kernel_rfl⟩
def n_numbers_in : List (Str × NameKind) := [("some", .local), ("greatest", .local), ("out", .local), ("low", .local), ("high", .local), ("plain_set", .globalImplicit), ("range", .globalImplicit), ("min", .globalImplicit)]
theorem f_numbers_in (P : Params) : FnIs (KK P) 101 (fnAt P 101) (bodyF 9) n_numbers_in (fun _ => []) := ⟨⟨.type "function", none, #[], by kernel_rfl⟩, by kernel_rfl, by kernel_rfl, by kernel_rfl, by kernel_rfl, by kernel_rfl, by kernel_rfl, fun _ => by kernel_rfl, by kernel_rfl, by kernel_rfl, by kernel_rfl⟩
def n_size_of : List (Str × NameKind) := [("some", .local), ("count", .local), ("low", .local), ("high", .local), ("settled", .globalImplicit)]
theorem f_size_of (P : Params) : FnIs (KK P) 108 (fnAt P 108) (bodyF 10) n_size_of (fun _ => []) := ⟨⟨.type "function", none, #[], by kernel_rfl⟩, by kernel_rfl, by kernel_rfl, by kernel_rfl, by kernel_rfl, by kernel_rfl, by kernel_rfl, fun _ => by kernel_rfl, by kernel_rfl, by kernel_rfl, by kernel_rfl⟩
def n_atom_init : List (Str × NameKind) := [("self", .local), ("text", .local)]
theorem f_atom_init (P : Params) : FnIs (KK P) 122 (fnAt P 122) (bodyM 12 0) n_atom_init (fun _ => []) := ⟨⟨.type "function", none, #[], by kernel_rfl⟩, by kernel_rfl, by kernel_rfl, by kernel_rfl, by kernel_rfl, by kernel_rfl, by kernel_rfl, fun _ => by kernel_rfl, by kernel_rfl, by kernel_rfl, by kernel_rfl⟩
theorem i_atom_init (P : Params) : makesIn (KK P) 132 = true ∧ findIn (KK P) (.ref 132) "__init__" = some (some (.ref 122)) ∧ isFn (KK P) (.ref 122) = true := ⟨by kernel_rfl, by kernel_rfl, by kernel_rfl⟩
def n_held_init : List (Str × NameKind) := [("self", .local), ("uid", .local), ("flags", .local), ("modseq", .local)]
theorem f_held_init (P : Params) : FnIs (KK P) 151 (fnAt P 151) (bodyM 14 0) n_held_init (fun _ => []) := ⟨⟨.type "function", none, #[], by kernel_rfl⟩, by kernel_rfl, by kernel_rfl, by kernel_rfl, by kernel_rfl, by kernel_rfl, by kernel_rfl, fun _ => by kernel_rfl, by kernel_rfl, by kernel_rfl, by kernel_rfl⟩
theorem i_held_init (P : Params) : makesIn (KK P) 168 = true ∧ findIn (KK P) (.ref 168) "__init__" = some (some (.ref 151)) ∧ isFn (KK P) (.ref 151) = true := ⟨by kernel_rfl, by kernel_rfl, by kernel_rfl⟩
def n_is_whole : List (Str × NameKind) := [("self", .local)]
theorem f_is_whole (P : Params) : FnIs (KK P) 158 (fnAt P 158) (bodyM 14 1) n_is_whole (fun _ => []) := ⟨⟨.type "function", none, #[], by kernel_rfl⟩, by kernel_rfl, by kernel_rfl, by kernel_rfl, by kernel_rfl, by kernel_rfl, by kernel_rfl, fun _ => by kernel_rfl, by kernel_rfl, by kernel_rfl, by kernel_rfl⟩
theorem m_is_whole (P : Params) : MethOk (KK P) 168 "is_whole" 158 := ⟨by kernel_rfl, by kernel_rfl, by kernel_rfl, by kernel_rfl⟩
def n_held_told : List (Str × NameKind) := [("self", .local)]
theorem f_held_told (P : Params) : FnIs (KK P) 165 (fnAt P 165) (bodyM 14 2) n_held_told (fun _ => []) := ⟨⟨.type "function", none, #[], by kernel_rfl⟩, by kernel_rfl, by kernel_rfl, by kernel_rfl, by kernel_rfl, by kernel_rfl, by kernel_rfl, fun _ => by kernel_rfl, by kernel_rfl, by kernel_rfl, by kernel_rfl⟩
theorem m_held_told (P : Params) : MethOk (KK P) 168 "told" 165 := ⟨by kernel_rfl, by kernel_rfl, by kernel_rfl, by kernel_rfl⟩
def n_copy_init : List (Str × NameKind) := [("self", .local)]
theorem f_copy_init (P : Params) : FnIs (KK P) 186 (fnAt P 186) (bodyM 15 0) n_copy_init (fun _ => []) := ⟨⟨.type "function", none, #[], by kernel_rfl⟩, by kernel_rfl, by kernel_rfl, by kernel_rfl, by kernel_rfl, by kernel_rfl, by kernel_rfl, fun _ => by kernel_rfl, by kernel_rfl, by kernel_rfl, by kernel_rfl⟩
theorem i_copy_init (P : Params) : makesIn (KK P) 218 = true ∧ findIn (KK P) (.ref 218) "__init__" = some (some (.ref 186)) ∧ isFn (KK P) (.ref 186) = true := ⟨by kernel_rfl, by kernel_rfl, by kernel_rfl⟩
def n_uids : List (Str × NameKind) := [("self", .local)]
theorem f_uids (P : Params) : FnIs (KK P) 191 (fnAt P 191) (bodyM 15 1) n_uids (fun _ => []) := ⟨⟨.type "function", none, #[], by kernel_rfl⟩, by kernel_rfl, by kernel_rfl, by kernel_rfl, by kernel_rfl, by kernel_rfl, by kernel_rfl, fun _ => by kernel_rfl, by kernel_rfl, by kernel_rfl, by kernel_rfl⟩
theorem m_uids (P : Params) : MethOk (KK P) 218 "uids" 191 := ⟨by kernel_rfl, by kernel_rfl, by kernel_rfl, by kernel_rfl⟩
def n_row : List (Str × NameKind) := [("self", .local), ("number", .local), ("len", .globalImplicit), ("ClientFault", .globalImplicit)]
theorem f_row (P : Params) : FnIs (KK P) 198 (fnAt P 198) (bodyM 15 2) n_row (fun _ => []) := ⟨⟨.type "function", none, #[], by kernel_rfl⟩, by kernel_rfl, by kernel_rfl, by kernel_rfl, by kernel_rfl, by kernel_rfl, by kernel_rfl, fun _ => by kernel_rfl, by kernel_rfl, by kernel_rfl, by kernel_rfl⟩
theorem m_row (P : Params) : MethOk (KK P) 218 "row" 198 := ⟨by kernel_rfl, by kernel_rfl, by kernel_rfl, by kernel_rfl⟩
def n_missing : List (Str × NameKind) := [("self", .cell), ("range", .globalImplicit), ("len", .globalImplicit)]
theorem f_missing (P : Params) : FnIs (KK P) 203 (fnAt P 203) (bodyM 15 3) n_missing (fun n => [("self", n)]) := ⟨⟨.type "function", none, #[], by kernel_rfl⟩, by kernel_rfl, by kernel_rfl, by kernel_rfl, by kernel_rfl, by kernel_rfl, by kernel_rfl, fun _ => by kernel_rfl, by kernel_rfl, by kernel_rfl, by kernel_rfl⟩
theorem m_missing (P : Params) : MethOk (KK P) 218 "missing" 203 := ⟨by kernel_rfl, by kernel_rfl, by kernel_rfl, by kernel_rfl⟩
def n_copy_told : List (Str × NameKind) := [("self", .local), ("tuple", .globalImplicit)]
theorem f_copy_told (P : Params) : FnIs (KK P) 208 (fnAt P 208) (bodyM 15 4) n_copy_told (fun _ => []) := ⟨⟨.type "function", none, #[], by kernel_rfl⟩, by kernel_rfl, by kernel_rfl, by kernel_rfl, by kernel_rfl, by kernel_rfl, by kernel_rfl, fun _ => by kernel_rfl, by kernel_rfl, by kernel_rfl, by kernel_rfl⟩
theorem m_copy_told (P : Params) : MethOk (KK P) 218 "told" 208 := ⟨by kernel_rfl, by kernel_rfl, by kernel_rfl, by kernel_rfl⟩
def n_take : List (Str × NameKind) := [("self", .local), ("answer", .local), ("word", .local), ("take_exists", .globalImplicit), ("take_vanished", .globalImplicit), ("take_fetch", .globalImplicit), ("tuple", .globalImplicit), ("take_code", .globalImplicit)]
theorem f_take (P : Params) : FnIs (KK P) 215 (fnAt P 215) (bodyM 15 5) n_take (fun _ => []) := ⟨⟨.type "function", none, #[], by kernel_rfl⟩, by kernel_rfl, by kernel_rfl, by kernel_rfl, by kernel_rfl, by kernel_rfl, by kernel_rfl, fun _ => by kernel_rfl, by kernel_rfl, by kernel_rfl, by kernel_rfl⟩
theorem m_take (P : Params) : MethOk (KK P) 218 "take" 215 := ⟨by kernel_rfl, by kernel_rfl, by kernel_rfl, by kernel_rfl⟩
def n_take_exists : List (Str × NameKind) := [("copy", .local), ("count", .local), ("len", .globalImplicit), ("range", .globalImplicit), ("ClientFault", .globalImplicit)]
theorem f_take_exists (P : Params) : FnIs (KK P) 227 (fnAt P 227) (bodyF 16) n_take_exists (fun _ => []) := ⟨⟨.type "function", none, #[], by kernel_rfl⟩, by kernel_rfl, by kernel_rfl, by kernel_rfl, by kernel_rfl, by kernel_rfl, by kernel_rfl, fun _ => by kernel_rfl, by kernel_rfl, by kernel_rfl, by kernel_rfl⟩
def n_check_uid : List (Str × NameKind) := [("copy", .local), ("number", .local), ("uid", .local), ("place", .local), ("other", .local), ("range", .globalImplicit), ("len", .globalImplicit), ("ClientFault", .globalImplicit)]
theorem f_check_uid (P : Params) : FnIs (KK P) 234 (fnAt P 234) (bodyF 17) n_check_uid (fun _ => []) := ⟨⟨.type "function", none, #[], by kernel_rfl⟩, by kernel_rfl, by kernel_rfl, by kernel_rfl, by kernel_rfl, by kernel_rfl, by kernel_rfl, fun _ => by kernel_rfl, by kernel_rfl, by kernel_rfl, by kernel_rfl⟩
def n_take_fetch : List (Str × NameKind) := [("copy", .local), ("number", .local), ("pairs", .local), ("row", .local), ("words", .local), ("dict", .globalImplicit), ("check_uid", .globalImplicit), ("tuple", .globalImplicit), ("sorted", .globalImplicit)]
theorem f_take_fetch (P : Params) : FnIs (KK P) 239 (fnAt P 239) (bodyF 18) n_take_fetch (fun _ => []) := ⟨⟨.type "function", none, #[], by kernel_rfl⟩, by kernel_rfl, by kernel_rfl, by kernel_rfl, by kernel_rfl, by kernel_rfl, by kernel_rfl, fun _ => by kernel_rfl, by kernel_rfl, by kernel_rfl, by kernel_rfl⟩
def n_place_gone : List (Str × NameKind) := [("copy", .local), ("uid", .local), ("unknown", .local), ("place", .local), ("other", .local), ("range", .globalImplicit), ("len", .globalImplicit), ("ClientFault", .globalImplicit)]
theorem f_place_gone (P : Params) : FnIs (KK P) 246 (fnAt P 246) (bodyF 19) n_place_gone (fun _ => []) := ⟨⟨.type "function", none, #[], by kernel_rfl⟩, by kernel_rfl, by kernel_rfl, by kernel_rfl, by kernel_rfl, by kernel_rfl, by kernel_rfl, fun _ => by kernel_rfl, by kernel_rfl, by kernel_rfl, by kernel_rfl⟩
def n_blur : List (Str × NameKind) := [("copy", .local), ("place", .local), ("low", .local), ("len", .globalImplicit), ("Held", .globalImplicit)]
theorem f_blur (P : Params) : FnIs (KK P) 253 (fnAt P 253) (bodyF 20) n_blur (fun _ => []) := ⟨⟨.type "function", none, #[], by kernel_rfl⟩, by kernel_rfl, by kernel_rfl, by kernel_rfl, by kernel_rfl, by kernel_rfl, by kernel_rfl, fun _ => by kernel_rfl, by kernel_rfl, by kernel_rfl, by kernel_rfl⟩
def n_drop_uid : List (Str × NameKind) := [("copy", .local), ("uid", .local), ("place", .local), ("place_gone", .globalImplicit), ("blur", .globalImplicit)]
theorem f_drop_uid (P : Params) : FnIs (KK P) 260 (fnAt P 260) (bodyF 21) n_drop_uid (fun _ => []) := ⟨⟨.type "function", none, #[], by kernel_rfl⟩, by kernel_rfl, by kernel_rfl, by kernel_rfl, by kernel_rfl, by kernel_rfl, by kernel_rfl, fun _ => by kernel_rfl, by kernel_rfl, by kernel_rfl, by kernel_rfl⟩
def n_uids_of : List (Str × NameKind) := [("some", .local), ("pairs", .local), ("plain_set", .globalImplicit), ("len", .globalImplicit), ("numbers_in", .globalImplicit)]
theorem f_uids_of (P : Params) : FnIs (KK P) 267 (fnAt P 267) (bodyF 22) n_uids_of (fun _ => []) := ⟨⟨.type "function", none, #[], by kernel_rfl⟩, by kernel_rfl, by kernel_rfl, by kernel_rfl, by kernel_rfl, by kernel_rfl, by kernel_rfl, fun _ => by kernel_rfl, by kernel_rfl, by kernel_rfl, by kernel_rfl⟩
def n_take_vanished : List (Str × NameKind) := [("copy", .cell), ("some", .cell), ("is_earlier", .local), ("uid", .local), ("dict", .globalImplicit), ("size_of", .globalImplicit), ("len", .globalImplicit), ("ClientFault", .globalImplicit), ("uids_of", .globalImplicit), ("drop_uid", .globalImplicit)]
theorem f_take_vanished (P : Params) : FnIs (KK P) 272 (fnAt P 272) (bodyF 23) n_take_vanished (fun n => [("some", n + 1), ("copy", n)]) := ⟨⟨.type "function", none, #[], by kernel_rfl⟩, by kernel_rfl, by kernel_rfl, by kernel_rfl, by kernel_rfl, by kernel_rfl, by kernel_rfl, fun _ => by kernel_rfl, by kernel_rfl, by kernel_rfl, by kernel_rfl⟩
def n_code_word : List (Str × NameKind) := [("code", .local), ("len", .globalImplicit), ("isinstance", .globalImplicit), ("Atom", .globalImplicit)]
theorem f_code_word (P : Params) : FnIs (KK P) 279 (fnAt P 279) (bodyF 24) n_code_word (fun _ => []) := ⟨⟨.type "function", none, #[], by kernel_rfl⟩, by kernel_rfl, by kernel_rfl, by kernel_rfl, by kernel_rfl, by kernel_rfl, by kernel_rfl, fun _ => by kernel_rfl, by kernel_rfl, by kernel_rfl, by kernel_rfl⟩
def n_code_number : List (Str × NameKind) := [("code", .local), ("len", .globalImplicit), ("isinstance", .globalImplicit), ("int", .globalImplicit)]
theorem f_code_number (P : Params) : FnIs (KK P) 286 (fnAt P 286) (bodyF 25) n_code_number (fun _ => []) := ⟨⟨.type "function", none, #[], by kernel_rfl⟩, by kernel_rfl, by kernel_rfl, by kernel_rfl, by kernel_rfl, by kernel_rfl, by kernel_rfl, fun _ => by kernel_rfl, by kernel_rfl, by kernel_rfl, by kernel_rfl⟩
def n_take_top : List (Str × NameKind) := [("copy", .local), ("is_tagged", .local), ("modseq", .local), ("ClientFault", .globalImplicit), ("max", .globalImplicit)]
theorem f_take_top (P : Params) : FnIs (KK P) 300 (fnAt P 300) (bodyF 27) n_take_top (fun _ => []) := ⟨⟨.type "function", none, #[], by kernel_rfl⟩, by kernel_rfl, by kernel_rfl, by kernel_rfl, by kernel_rfl, by kernel_rfl, by kernel_rfl, fun _ => by kernel_rfl, by kernel_rfl, by kernel_rfl, by kernel_rfl⟩
def n_take_code : List (Str × NameKind) := [("copy", .local), ("is_tagged", .local), ("code", .local), ("word", .local), ("code_word", .globalImplicit), ("take_validity", .globalImplicit), ("code_number", .globalImplicit), ("take_top", .globalImplicit)]
theorem f_take_code (P : Params) : FnIs (KK P) 307 (fnAt P 307) (bodyF 28) n_take_code (fun _ => []) := ⟨⟨.type "function", none, #[], by kernel_rfl⟩, by kernel_rfl, by kernel_rfl, by kernel_rfl, by kernel_rfl, by kernel_rfl, by kernel_rfl, fun _ => by kernel_rfl, by kernel_rfl, by kernel_rfl, by kernel_rfl⟩
def n_law_pairs : List (Str × NameKind) := [("row", .local), ("cell", .local), ("pairs", .local), ("ways", .local)]
theorem f_law_pairs (P : Params) : FnIs (KK P) 312 (fnAt P 312) (bodyF 30) n_law_pairs (fun _ => []) := ⟨⟨.type "function", none, #[], by kernel_rfl⟩, by kernel_rfl, by kernel_rfl, by kernel_rfl, by kernel_rfl, by kernel_rfl, by kernel_rfl, fun _ => by kernel_rfl, by kernel_rfl, by kernel_rfl, by kernel_rfl⟩
def n_law_know : List (Str × NameKind) := [("row", .local), ("pairs", .local), ("words", .local), ("dict", .globalImplicit), ("tuple", .globalImplicit), ("sorted", .globalImplicit)]
theorem f_law_know (P : Params) : FnIs (KK P) 317 (fnAt P 317) (bodyF 31) n_law_know (fun _ => []) := ⟨⟨.type "function", none, #[], by kernel_rfl⟩, by kernel_rfl, by kernel_rfl, by kernel_rfl, by kernel_rfl, by kernel_rfl, by kernel_rfl, fun _ => by kernel_rfl, by kernel_rfl, by kernel_rfl, by kernel_rfl⟩
def n_law_vanish : List (Str × NameKind) := [("rows", .local), ("uid", .local), ("at", .local), ("low", .local), ("high", .local), ("place", .local), ("len", .globalImplicit), ("range", .globalImplicit)]
theorem f_law_vanish (P : Params) : FnIs (KK P) 322 (fnAt P 322) (bodyF 32) n_law_vanish (fun _ => []) := ⟨⟨.type "function", none, #[], by kernel_rfl⟩, by kernel_rfl, by kernel_rfl, by kernel_rfl, by kernel_rfl, by kernel_rfl, by kernel_rfl, fun _ => by kernel_rfl, by kernel_rfl, by kernel_rfl, by kernel_rfl⟩
def n_law_answer : List (Str × NameKind) := [("rows", .cell), ("counts", .local), ("cell", .local), ("kind", .local), ("rest", .cell), ("step", .local), ("at", .local), ("pairs", .local), ("gone", .local), ("uid", .local), ("tag", .local), ("range", .globalImplicit), ("len", .globalImplicit), ("_law_pairs", .globalImplicit), ("_law_know", .globalImplicit), ("tuple", .globalImplicit), ("_law_vanish", .globalImplicit), ("max", .globalImplicit), ("Atom", .globalImplicit)]
theorem f_law_answer (P : Params) : FnIs (KK P) 327 (fnAt P 327) (bodyF 33) n_law_answer (fun n => [("rest", n + 1), ("rows", n)]) := ⟨⟨.type "function", none, #[], by kernel_rfl⟩, by kernel_rfl, by kernel_rfl, by kernel_rfl, by kernel_rfl, by kernel_rfl, by kernel_rfl, fun _ => by kernel_rfl, by kernel_rfl, by kernel_rfl, by kernel_rfl⟩
def n_law : List (Str × NameKind) := [("script", .local), ("copy", .local), ("rows", .cell), ("counts", .local), ("cell", .local), ("Copy", .globalImplicit), ("_law_answer", .globalImplicit), ("tuple", .globalImplicit), ("range", .globalImplicit), ("len", .globalImplicit)]
theorem f_law (P : Params) : FnIs (KK P) 332 (fnAt P 332) (bodyF 34) n_law (fun n => [("rows", n)]) := ⟨⟨.type "function", none, #[], by kernel_rfl⟩, by kernel_rfl, by kernel_rfl, by kernel_rfl, by kernel_rfl, by kernel_rfl, by kernel_rfl, fun _ => by kernel_rfl, by kernel_rfl, by kernel_rfl, by kernel_rfl⟩
theorem g_ends_of (P : Params) : nsIn (KK P) mainGlobals "ends_of" = some (some (.ref 73)) := by kernel_rfl
theorem k_ends_of (P : Params) : Keepable (KK P) (.ref 73) := .inr (.inr (by kernel_rfl))
theorem g_plain_set (P : Params) : nsIn (KK P) mainGlobals "plain_set" = some (some (.ref 80)) := by kernel_rfl
theorem k_plain_set (P : Params) : Keepable (KK P) (.ref 80) := .inr (.inr (by kernel_rfl))
theorem g_settled (P : Params) : nsIn (KK P) mainGlobals "settled" = some (some (.ref 87)) := by kernel_rfl
theorem k_settled (P : Params) : Keepable (KK P) (.ref 87) := .inr (.inr (by kernel_rfl))
theorem g_numbers_in (P : Params) : nsIn (KK P) mainGlobals "numbers_in" = some (some (.ref 101)) := by kernel_rfl
theorem k_numbers_in (P : Params) : Keepable (KK P) (.ref 101) := .inr (.inr (by kernel_rfl))
theorem g_size_of (P : Params) : nsIn (KK P) mainGlobals "size_of" = some (some (.ref 108)) := by kernel_rfl
theorem k_size_of (P : Params) : Keepable (KK P) (.ref 108) := .inr (.inr (by kernel_rfl))
theorem g_take_exists (P : Params) : nsIn (KK P) mainGlobals "take_exists" = some (some (.ref 227)) := by kernel_rfl
theorem k_take_exists (P : Params) : Keepable (KK P) (.ref 227) := .inr (.inr (by kernel_rfl))
theorem g_check_uid (P : Params) : nsIn (KK P) mainGlobals "check_uid" = some (some (.ref 234)) := by kernel_rfl
theorem k_check_uid (P : Params) : Keepable (KK P) (.ref 234) := .inr (.inr (by kernel_rfl))
theorem g_take_fetch (P : Params) : nsIn (KK P) mainGlobals "take_fetch" = some (some (.ref 239)) := by kernel_rfl
theorem k_take_fetch (P : Params) : Keepable (KK P) (.ref 239) := .inr (.inr (by kernel_rfl))
theorem g_place_gone (P : Params) : nsIn (KK P) mainGlobals "place_gone" = some (some (.ref 246)) := by kernel_rfl
theorem k_place_gone (P : Params) : Keepable (KK P) (.ref 246) := .inr (.inr (by kernel_rfl))
theorem g_blur (P : Params) : nsIn (KK P) mainGlobals "blur" = some (some (.ref 253)) := by kernel_rfl
theorem k_blur (P : Params) : Keepable (KK P) (.ref 253) := .inr (.inr (by kernel_rfl))
theorem g_drop_uid (P : Params) : nsIn (KK P) mainGlobals "drop_uid" = some (some (.ref 260)) := by kernel_rfl
theorem k_drop_uid (P : Params) : Keepable (KK P) (.ref 260) := .inr (.inr (by kernel_rfl))
theorem g_uids_of (P : Params) : nsIn (KK P) mainGlobals "uids_of" = some (some (.ref 267)) := by kernel_rfl
theorem k_uids_of (P : Params) : Keepable (KK P) (.ref 267) := .inr (.inr (by kernel_rfl))
theorem g_take_vanished (P : Params) : nsIn (KK P) mainGlobals "take_vanished" = some (some (.ref 272)) := by kernel_rfl
theorem k_take_vanished (P : Params) : Keepable (KK P) (.ref 272) := .inr (.inr (by kernel_rfl))
theorem g_code_word (P : Params) : nsIn (KK P) mainGlobals "code_word" = some (some (.ref 279)) := by kernel_rfl
theorem k_code_word (P : Params) : Keepable (KK P) (.ref 279) := .inr (.inr (by kernel_rfl))
theorem g_code_number (P : Params) : nsIn (KK P) mainGlobals "code_number" = some (some (.ref 286)) := by kernel_rfl
theorem k_code_number (P : Params) : Keepable (KK P) (.ref 286) := .inr (.inr (by kernel_rfl))
theorem g_take_top (P : Params) : nsIn (KK P) mainGlobals "take_top" = some (some (.ref 300)) := by kernel_rfl
theorem k_take_top (P : Params) : Keepable (KK P) (.ref 300) := .inr (.inr (by kernel_rfl))
theorem g_take_code (P : Params) : nsIn (KK P) mainGlobals "take_code" = some (some (.ref 307)) := by kernel_rfl
theorem k_take_code (P : Params) : Keepable (KK P) (.ref 307) := .inr (.inr (by kernel_rfl))
theorem g_law_pairs (P : Params) : nsIn (KK P) mainGlobals "_law_pairs" = some (some (.ref 312)) := by kernel_rfl
theorem k_law_pairs (P : Params) : Keepable (KK P) (.ref 312) := .inr (.inr (by kernel_rfl))
theorem g_law_know (P : Params) : nsIn (KK P) mainGlobals "_law_know" = some (some (.ref 317)) := by kernel_rfl
theorem k_law_know (P : Params) : Keepable (KK P) (.ref 317) := .inr (.inr (by kernel_rfl))
theorem g_law_vanish (P : Params) : nsIn (KK P) mainGlobals "_law_vanish" = some (some (.ref 322)) := by kernel_rfl
theorem k_law_vanish (P : Params) : Keepable (KK P) (.ref 322) := .inr (.inr (by kernel_rfl))
theorem g_law_answer (P : Params) : nsIn (KK P) mainGlobals "_law_answer" = some (some (.ref 327)) := by kernel_rfl
theorem k_law_answer (P : Params) : Keepable (KK P) (.ref 327) := .inr (.inr (by kernel_rfl))
theorem g_Held (P : Params) : nsIn (KK P) mainGlobals "Held" = some (some (.ref 168)) := by kernel_rfl
theorem k_Held (P : Params) : Keepable (KK P) (.ref 168) := .inr (.inr (by kernel_rfl))
theorem g_Copy (P : Params) : nsIn (KK P) mainGlobals "Copy" = some (some (.ref 218)) := by kernel_rfl
theorem k_Copy (P : Params) : Keepable (KK P) (.ref 218) := .inr (.inr (by kernel_rfl))
theorem g_Atom (P : Params) : nsIn (KK P) mainGlobals "Atom" = some (some (.ref 132)) := by kernel_rfl
theorem k_Atom (P : Params) : Keepable (KK P) (.ref 132) := .inr (.inr (by kernel_rfl))
theorem b_len (P : Params) : nsIn (KK P) mainGlobals "len" = some none := by kernel_rfl
theorem b_range (P : Params) : nsIn (KK P) mainGlobals "range" = some none := by kernel_rfl
theorem b_tuple (P : Params) : nsIn (KK P) mainGlobals "tuple" = some none := by kernel_rfl
theorem b_dict (P : Params) : nsIn (KK P) mainGlobals "dict" = some none := by kernel_rfl
theorem b_sorted (P : Params) : nsIn (KK P) mainGlobals "sorted" = some none := by kernel_rfl
theorem b_min (P : Params) : nsIn (KK P) mainGlobals "min" = some none := by kernel_rfl
theorem b_max (P : Params) : nsIn (KK P) mainGlobals "max" = some none := by kernel_rfl
theorem b_isinstance (P : Params) : nsIn (KK P) mainGlobals "isinstance" = some none := by kernel_rfl
theorem b_int (P : Params) : nsIn (KK P) mainGlobals "int" = some none := by kernel_rfl
theorem get_168_uid (P : Params) : GetOk (KK P) 168 "uid" := ⟨by kernel_rfl, by kernel_rfl, by kernel_rfl⟩
theorem set_168_uid (P : Params) : SetOk (KK P) 168 "uid" := ⟨by kernel_rfl, by kernel_rfl, by kernel_rfl, by kernel_rfl⟩
theorem get_168_flags (P : Params) : GetOk (KK P) 168 "flags" := ⟨by kernel_rfl, by kernel_rfl, by kernel_rfl⟩
theorem set_168_flags (P : Params) : SetOk (KK P) 168 "flags" := ⟨by kernel_rfl, by kernel_rfl, by kernel_rfl, by kernel_rfl⟩
theorem get_168_modseq (P : Params) : GetOk (KK P) 168 "modseq" := ⟨by kernel_rfl, by kernel_rfl, by kernel_rfl⟩
theorem set_168_modseq (P : Params) : SetOk (KK P) 168 "modseq" := ⟨by kernel_rfl, by kernel_rfl, by kernel_rfl, by kernel_rfl⟩
theorem get_218_box (P : Params) : GetOk (KK P) 218 "box" := ⟨by kernel_rfl, by kernel_rfl, by kernel_rfl⟩
theorem set_218_box (P : Params) : SetOk (KK P) 218 "box" := ⟨by kernel_rfl, by kernel_rfl, by kernel_rfl, by kernel_rfl⟩
theorem get_218_validity (P : Params) : GetOk (KK P) 218 "validity" := ⟨by kernel_rfl, by kernel_rfl, by kernel_rfl⟩
theorem set_218_validity (P : Params) : SetOk (KK P) 218 "validity" := ⟨by kernel_rfl, by kernel_rfl, by kernel_rfl, by kernel_rfl⟩
theorem get_218_next_uid (P : Params) : GetOk (KK P) 218 "next_uid" := ⟨by kernel_rfl, by kernel_rfl, by kernel_rfl⟩
theorem set_218_next_uid (P : Params) : SetOk (KK P) 218 "next_uid" := ⟨by kernel_rfl, by kernel_rfl, by kernel_rfl, by kernel_rfl⟩
theorem get_218_top (P : Params) : GetOk (KK P) 218 "top" := ⟨by kernel_rfl, by kernel_rfl, by kernel_rfl⟩
theorem set_218_top (P : Params) : SetOk (KK P) 218 "top" := ⟨by kernel_rfl, by kernel_rfl, by kernel_rfl, by kernel_rfl⟩
theorem get_218_rows (P : Params) : GetOk (KK P) 218 "rows" := ⟨by kernel_rfl, by kernel_rfl, by kernel_rfl⟩
theorem set_218_rows (P : Params) : SetOk (KK P) 218 "rows" := ⟨by kernel_rfl, by kernel_rfl, by kernel_rfl, by kernel_rfl⟩
theorem get_218_kept (P : Params) : GetOk (KK P) 218 "kept" := ⟨by kernel_rfl, by kernel_rfl, by kernel_rfl⟩
theorem set_218_kept (P : Params) : SetOk (KK P) 218 "kept" := ⟨by kernel_rfl, by kernel_rfl, by kernel_rfl, by kernel_rfl⟩
theorem get_218_is_opening (P : Params) : GetOk (KK P) 218 "is_opening" := ⟨by kernel_rfl, by kernel_rfl, by kernel_rfl⟩
theorem set_218_is_opening (P : Params) : SetOk (KK P) 218 "is_opening" := ⟨by kernel_rfl, by kernel_rfl, by kernel_rfl, by kernel_rfl⟩
theorem get_218_coming_top (P : Params) : GetOk (KK P) 218 "coming_top" := ⟨by kernel_rfl, by kernel_rfl, by kernel_rfl⟩
theorem set_218_coming_top (P : Params) : SetOk (KK P) 218 "coming_top" := ⟨by kernel_rfl, by kernel_rfl, by kernel_rfl, by kernel_rfl⟩
theorem get_218_is_readonly (P : Params) : GetOk (KK P) 218 "is_readonly" := ⟨by kernel_rfl, by kernel_rfl, by kernel_rfl⟩
theorem set_218_is_readonly (P : Params) : SetOk (KK P) 218 "is_readonly" := ⟨by kernel_rfl, by kernel_rfl, by kernel_rfl, by kernel_rfl⟩
theorem get_218_flag_names (P : Params) : GetOk (KK P) 218 "flag_names" := ⟨by kernel_rfl, by kernel_rfl, by kernel_rfl⟩
theorem set_218_flag_names (P : Params) : SetOk (KK P) 218 "flag_names" := ⟨by kernel_rfl, by kernel_rfl, by kernel_rfl, by kernel_rfl⟩
theorem get_132_text (P : Params) : GetOk (KK P) 132 "text" := ⟨by kernel_rfl, by kernel_rfl, by kernel_rfl⟩
theorem set_132_text (P : Params) : SetOk (KK P) 132 "text" := ⟨by kernel_rfl, by kernel_rfl, by kernel_rfl, by kernel_rfl⟩
end Mine
end
section
set_option maxRecDepth 100000
set_option Elab.async false
set_option linter.unusedVariables false
namespace Mine
open PySem PySem.W PySem.Calls PyProof.Rows

theorem le900 {α : Type} {l : List α} (h : Nat.ble l.length 900 = true) : l.length ≤ 900 := Nat.le_of_ble_eq_true h
theorem bi_len : bootBuiltins "len" = some (.builtin "len") := by decide +kernel
theorem bi_range : bootBuiltins "range" = some (.type "range") := by decide +kernel
theorem bi_tuple : bootBuiltins "tuple" = some (.type "tuple") := by decide +kernel
theorem bi_dict : bootBuiltins "dict" = some (.type "dict") := by decide +kernel
theorem bi_sorted : bootBuiltins "sorted" = some (.builtin "sorted") := by decide +kernel
theorem bi_min : bootBuiltins "min" = some (.builtin "min") := by decide +kernel
theorem bi_max : bootBuiltins "max" = some (.builtin "max") := by decide +kernel
theorem bi_isinstance : bootBuiltins "isinstance" = some (.builtin "isinstance") := by decide +kernel
theorem bi_int : bootBuiltins "int" = some (.type "int") := by decide +kernel
section
variable {P : Params} {C : Cx} {env : Env} {σ : St} {pos : Pos} {names : List (Str × NameKind)} {cl : List (Str × Addr)}
theorem nm_len (E : EnvIs env C.L names cl) (G : Gr P C.b) (hn : names.lookup ("len" : Str) = some .globalImplicit) : Pe C env (.Name "len" pos) σ (.builtin "len") := Pe.b E G hn (b_len P) bi_len (by decide +kernel) (by decide +kernel)
theorem nm_range (E : EnvIs env C.L names cl) (G : Gr P C.b) (hn : names.lookup ("range" : Str) = some .globalImplicit) : Pe C env (.Name "range" pos) σ (.type "range") := Pe.b E G hn (b_range P) bi_range (by decide +kernel) (by decide +kernel)
theorem nm_tuple (E : EnvIs env C.L names cl) (G : Gr P C.b) (hn : names.lookup ("tuple" : Str) = some .globalImplicit) : Pe C env (.Name "tuple" pos) σ (.type "tuple") := Pe.b E G hn (b_tuple P) bi_tuple (by decide +kernel) (by decide +kernel)
theorem nm_dict (E : EnvIs env C.L names cl) (G : Gr P C.b) (hn : names.lookup ("dict" : Str) = some .globalImplicit) : Pe C env (.Name "dict" pos) σ (.type "dict") := Pe.b E G hn (b_dict P) bi_dict (by decide +kernel) (by decide +kernel)
theorem nm_sorted (E : EnvIs env C.L names cl) (G : Gr P C.b) (hn : names.lookup ("sorted" : Str) = some .globalImplicit) : Pe C env (.Name "sorted" pos) σ (.builtin "sorted") := Pe.b E G hn (b_sorted P) bi_sorted (by decide +kernel) (by decide +kernel)
theorem nm_min (E : EnvIs env C.L names cl) (G : Gr P C.b) (hn : names.lookup ("min" : Str) = some .globalImplicit) : Pe C env (.Name "min" pos) σ (.builtin "min") := Pe.b E G hn (b_min P) bi_min (by decide +kernel) (by decide +kernel)
theorem nm_max (E : EnvIs env C.L names cl) (G : Gr P C.b) (hn : names.lookup ("max" : Str) = some .globalImplicit) : Pe C env (.Name "max" pos) σ (.builtin "max") := Pe.b E G hn (b_max P) bi_max (by decide +kernel) (by decide +kernel)
theorem nm_isinstance (E : EnvIs env C.L names cl) (G : Gr P C.b) (hn : names.lookup ("isinstance" : Str) = some .globalImplicit) : Pe C env (.Name "isinstance" pos) σ (.builtin "isinstance") := Pe.b E G hn (b_isinstance P) bi_isinstance (by decide +kernel) (by decide +kernel)
theorem nm_int (E : EnvIs env C.L names cl) (G : Gr P C.b) (hn : names.lookup ("int" : Str) = some .globalImplicit) : Pe C env (.Name "int" pos) σ (.type "int") := Pe.b E G hn (b_int P) bi_int (by decide +kernel) (by decide +kernel)
/-- len of a list -/
theorem call_len (G : Gr P C.b) (E : EnvIs env C.L names cl) {e : Expr} {np : Pos} {l : Addr} {vs : List Value} (hn : names.lookup ("len" : Str) = some .globalImplicit) (he : Pe C env e σ (.ref l)) (hl : σ.H l = some (.list vs)) (hz : vs.length ≤ 100000)
    (hst : starEach [e] env = (false, eval e env) :: starEach [] env := by rfl) (ha : (backTo pos (starEach [e] env)).any (·.1) = false := by rfl)
    (hc : eval (.Call (.Name "len" np) [e] [] pos) env = (do callWith pos (← eval (.Name "len" np) env) [] (backTo pos (starEach [e] env)) (backToKw pos (keywordEach [] env))) := by rfl) : Pe C env (.Call (.Name "len" np) [e] [] pos) σ (.int vs.length 0) := by
  refine Ev.call G ?_ ha hc
  refine Pe.ev (nm_len E G hn) ⟨.inl ⟨_, rfl⟩, As.cons (Pe.ev he (As.nil ?_)) hst⟩
  exact CallTo.len hl (len_k hz) ⟨rfl, rfl⟩
theorem call_lenT (G : Gr P C.b) (E : EnvIs env C.L names cl) {e : Expr} {np : Pos} {l : Addr} {vs : List Value} (hn : names.lookup ("len" : Str) = some .globalImplicit) (he : Pe C env e σ (.ref l)) (hl : σ.H l = some (.tup vs)) (hz : vs.length ≤ 100000)
    (hst : starEach [e] env = (false, eval e env) :: starEach [] env := by rfl) (ha : (backTo pos (starEach [e] env)).any (·.1) = false := by rfl)
    (hc : eval (.Call (.Name "len" np) [e] [] pos) env = (do callWith pos (← eval (.Name "len" np) env) [] (backTo pos (starEach [e] env)) (backToKw pos (keywordEach [] env))) := by rfl) : Pe C env (.Call (.Name "len" np) [e] [] pos) σ (.int vs.length 0) := by
  refine Ev.call G ?_ ha hc
  refine Pe.ev (nm_len E G hn) ⟨.inl ⟨_, rfl⟩, As.cons (Pe.ev he (As.nil ?_)) hst⟩
  exact CallTo.lenT hl (len_k hz) ⟨rfl, rfl⟩
end

/-! The objects of the program -/
abbrev heldO (u : Int) (f : Value) (m : Int) : AO := .inst 168 [("uid", .int u 0), ("flags", f), ("modseq", .int m 0)]
abbrev atomO (x : Str) : AO := .inst 132 [("text", .str x 0)]
/-- what a Copy holds that the law may change -/
structure CopyD where
  top : Int
  rows : Addr
  kept : Addr
  ro : Bool
  names : Addr
abbrev copyO (c : CopyD) : AO := .inst 218 [("box", .str "" 0), ("validity", .int 0 0), ("next_uid", .int 0 0), ("top", .int c.top 0), ("rows", .ref c.rows), ("kept", .ref c.kept), ("is_opening", .bool false), ("coming_top", .int 0 0), ("is_readonly", .bool c.ro), ("flag_names", .ref c.names)]

def kRest (fd : FuncData) (x : Value) : {k : Option (Array Value) → Sem (List (Str × Value)) // bindArgs fd ⟨[x], []⟩ = seqItems? fd.defaults >>= k} := ⟨_, by with_unfolding_all rfl⟩
theorem bind_held (P : Params) (h : Addr) : BindOk (KK P) (fnAt P 151) [.ref h] [("self", .ref h), ("uid", .int 0 0), ("flags", .none), ("modseq", .int 0 0)] := fun vs' e s X => by
  obtain ⟨x, rfl, e1⟩ := map_er1 e
  refine ⟨[("self", x), ("uid", .int 0 379), ("flags", .none), ("modseq", .int 0 380)], binds_K (T := 144) (o := ⟨.type "tuple", none, .seq #[.int 0 379, .none, .int 0 380] 0, #[]⟩) X (by kernel_rfl) (by kernel_rfl) rfl (kRest (fnAt P 151) x).2 (by kernel_rfl), ?_, ?_⟩
  · simp only [List.map_cons, List.map_nil, e1]; rfl
  · have : ([("self", x), ("uid", Value.int 0 379), ("flags", .none), ("modseq", .int 0 380)] : List (Str × Value)).all (fun y => (fnAt P 151).scope.names.lookup y.1 == some .local) = true := by kernel_rfl
    intro y hy
    simpa using List.all_eq_true.mp this y hy

section
variable {P : Params} {C : Cx} {σ : St} {Φ : Value → St → Prop}
theorem held_new (G : Gr P C.b) (ok : OkA C.A 2) (k : ∀ x, σ.H x = none → Φ (.ref x) ⟨σ.m, upd σ.H x (heldO 0 .none 0)⟩) : CodeTo C (.ref 168) [] σ Φ := by
  refine CodeTo.cls G (i_held_init P).1 (i_held_init P).2.1 (i_held_init P).2.2 fun x hx => ?_
  refine (f_held_init P).call (n := 0) G (OkA.make ok) (bind_held P x) fun b L env Gb okb E => ?_
  refine Exs.cons (Ex.setattr Gb rfl (Pe.ev (Pe.l E (by rfl) (by rfl) (by rfl)) (Pe.ev (Pe.l E (by rfl) (by rfl) (by rfl)) ⟨x, 168, _, rfl, upd_self _ _ _, set_168_uid P, le900 (by rfl), ?_⟩)))
  rw [upd_upd]
  refine Exs.cons (Ex.setattr Gb rfl (Pe.ev (Pe.l E (by rfl) (by rfl) (by rfl)) (Pe.ev (Pe.l E (by rfl) (by rfl) (by rfl)) ⟨x, 168, _, rfl, upd_self _ _ _, set_168_flags P, le900 (by rfl), ?_⟩)))
  rw [upd_upd]
  refine Exs.cons (Ex.setattr Gb rfl (Pe.ev (Pe.l E (by rfl) (by rfl) (by rfl)) (Pe.ev (Pe.l E (by rfl) (by rfl) (by rfl)) ⟨x, 168, _, rfl, upd_self _ _ _, set_168_modseq P, le900 (by rfl), ?_⟩)))
  rw [upd_upd]
  exact Exs.nil ⟨rfl, k x hx⟩
theorem atom_new (G : Gr P C.b) (ok : OkA C.A 2) {t : Str} (k : ∀ x, σ.H x = none → Φ (.ref x) ⟨σ.m, upd σ.H x (atomO t)⟩) : CodeTo C (.ref 132) [.str t 0] σ Φ := by
  refine CodeTo.cls G (i_atom_init P).1 (i_atom_init P).2.1 (i_atom_init P).2.2 fun x hx => ?_
  refine (f_atom_init P).call (n := 0) G (OkA.make ok) (bind2 (n1 := "self") (n2 := "text") (fun x y => by kernel_rfl) (by kernel_rfl) (by kernel_rfl)) fun b L env Gb okb E => ?_
  refine Exs.cons (Ex.setattr Gb rfl (Pe.ev (Pe.l E (by rfl) (by rfl) (by rfl)) (Pe.ev (Pe.l E (by rfl) (by rfl) (by rfl)) ⟨x, 132, _, rfl, upd_self _ _ _, set_132_text P, le900 (by rfl), ?_⟩)))
  rw [upd_upd]
  exact Exs.nil ⟨rfl, k x hx⟩
theorem is_whole_spec (G : Gr P C.b) (ok : OkA C.A 1) {h : Addr} {u m : Int} {f : Value} (hH : σ.H h = some (heldO u f m)) (hf : handedIn f = true)
    (k : Φ (.bool (decide (u > 0) && !(f == .none))) σ) : CodeTo C (.ref 158) [.ref h] σ Φ := by
  refine (f_is_whole P).call G ok (bind1 (n1 := "self") (fun x => by kernel_rfl) (by kernel_rfl)) fun b L env Gb okb E => ?_
  refine Exs.cons (Ex.ret ?_)
  refine Pe.ev (Pe.and2 (Pe.cmp (Pe.attr Gb (Pe.l E (by rfl) (by rfl) (by rfl)) hH (get_168_uid P) (by rfl) (by rfl)) Pe.int CmpTo.gt (by rfl)) fun _ =>
    (Pe.cmp (Pe.attr Gb (Pe.l E (by rfl) (by rfl) (by rfl)) hH (get_168_flags P) (by rfl) hf) Pe.none_ CmpTo.isNotNone (by rfl))) ?_
  exact k
theorem held_told_spec (G : Gr P C.b) (ok : OkA C.A 1) {h : Addr} {u m : Int} {f : Value} (hH : σ.H h = some (heldO u f m)) (hf : handedIn f = true)
    (k : ∀ a, σ.H a = none → Φ (.ref a) ⟨σ.m, upd σ.H a (.tup [.int u 0, f, .int m 0])⟩) : CodeTo C (.ref 165) [.ref h] σ Φ := by
  refine (f_held_told P).call G ok (bind1 (n1 := "self") (fun x => by kernel_rfl) (by kernel_rfl)) fun b L env Gb okb E => ?_
  refine Exs.cons (Ex.ret (Ev.tuple ?_))
  refine As.cons (Pe.ev (Pe.attr Gb (Pe.l E (by rfl) (by rfl) (by rfl)) hH (get_168_uid P) (by rfl) (by rfl)) ?_)
  refine As.cons (Pe.ev (Pe.attr Gb (Pe.l E (by rfl) (by rfl) (by rfl)) hH (get_168_flags P) (by rfl) hf) ?_)
  refine As.cons (Pe.ev (Pe.attr Gb (Pe.l E (by rfl) (by rfl) (by rfl)) hH (get_168_modseq P) (by rfl) (by rfl)) ?_)
  refine As.nil ⟨len_small (by rfl), fun a ha => ?_⟩
  exact k a ha
theorem copy_new (G : Gr P C.b) (ok : OkA C.A 2) (k : ∀ x r d n H', σ.H x = none → Same σ.H H' → H' x = some (copyO ⟨0, r, d, false, n⟩) → H' r = some (.list []) → H' d = some .edict → H' n = some (.tup []) → σ.H r = none → σ.H d = none → σ.H n = none → Φ (.ref x) ⟨σ.m, H'⟩) : CodeTo C (.ref 218) [] σ Φ := by
  refine CodeTo.cls G (i_copy_init P).1 (i_copy_init P).2.1 (i_copy_init P).2.2 fun x hx => ?_
  refine (f_copy_init P).call (n := 0) G (OkA.make ok) (bind1 (n1 := "self") (fun x => by kernel_rfl) (by kernel_rfl)) fun b L env Gb okb E => ?_
  refine Exs.cons (Ex.setattr Gb rfl (Pe.ev Pe.str (Pe.ev (Pe.l E (by rfl) (by rfl) (by rfl)) ⟨x, 218, _, rfl, upd_self _ _ _, set_218_box P, le900 (by rfl), ?_⟩)))
  rw [upd_upd]
  refine Exs.cons (Ex.setattr Gb rfl (Pe.ev Pe.int (Pe.ev (Pe.l E (by rfl) (by rfl) (by rfl)) ⟨x, 218, _, rfl, upd_self _ _ _, set_218_validity P, le900 (by rfl), ?_⟩)))
  rw [upd_upd]
  refine Exs.cons (Ex.setattr Gb rfl (Pe.ev Pe.int (Pe.ev (Pe.l E (by rfl) (by rfl) (by rfl)) ⟨x, 218, _, rfl, upd_self _ _ _, set_218_next_uid P, le900 (by rfl), ?_⟩)))
  rw [upd_upd]
  refine Exs.cons (Ex.setattr Gb rfl (Pe.ev Pe.int (Pe.ev (Pe.l E (by rfl) (by rfl) (by rfl)) ⟨x, 218, _, rfl, upd_self _ _ _, set_218_top P, le900 (by rfl), ?_⟩)))
  rw [upd_upd]
  refine Exs.cons (Ex.setattr Gb rfl (Ev.list (As.nil ⟨len_small (by rfl), fun r hr => ?_⟩)))
  have hxr : x ≠ r := fun z => by subst z; dsimp only at hr; rw [upd_self] at hr; cases hr
  refine (Pe.ev (Pe.l E (by rfl) (by rfl) (by rfl)) ⟨x, 218, _, rfl, by dsimp only; rw [upd_ne hxr, upd_self], set_218_rows P, le900 (by rfl), ?_⟩)
  have k1 : ∀ {o : AO}, upd (upd (upd σ.H x o) r (.list [])) x = upd (upd σ.H r (.list [])) x := fun {o} => by
    funext o' y; unfold upd; split <;> rfl
  have hr0 : σ.H r = none := by dsimp only at hr; rw [upd_ne (Ne.symm hxr)] at hr; exact hr
  rw [k1]
  refine Exs.cons (Ex.setattr Gb rfl (Ev.edict Gb fun d hd => ?_))
  have hxd : x ≠ d := fun z => by subst z; dsimp only at hd; rw [upd_self] at hd; cases hd
  have hrd : r ≠ d := fun z => by subst z; dsimp only at hd; rw [upd_ne (Ne.symm hxr), upd_self] at hd; cases hd
  refine (Pe.ev (Pe.l E (by rfl) (by rfl) (by rfl)) ⟨x, 218, _, rfl, by dsimp only; rw [upd_ne hxd, upd_self], set_218_kept P, le900 (by rfl), ?_⟩)
  have k2 : ∀ {o : AO} {H₀ : AH}, upd (upd (upd H₀ x o) d .edict) x = upd (upd H₀ d .edict) x := fun {o H₀} => by
    funext o' y; unfold upd; split <;> rfl
  have hd0 : σ.H d = none := by dsimp only at hd; rw [upd_ne (Ne.symm hxd), upd_ne (Ne.symm hrd)] at hd; exact hd
  rw [k2]
  refine Exs.cons (Ex.setattr Gb rfl (Pe.ev Pe.bool (Pe.ev (Pe.l E (by rfl) (by rfl) (by rfl)) ⟨x, 218, _, rfl, upd_self _ _ _, set_218_is_opening P, le900 (by rfl), ?_⟩)))
  rw [upd_upd]
  refine Exs.cons (Ex.setattr Gb rfl (Pe.ev Pe.int (Pe.ev (Pe.l E (by rfl) (by rfl) (by rfl)) ⟨x, 218, _, rfl, upd_self _ _ _, set_218_coming_top P, le900 (by rfl), ?_⟩)))
  rw [upd_upd]
  refine Exs.cons (Ex.setattr Gb rfl (Pe.ev Pe.bool (Pe.ev (Pe.l E (by rfl) (by rfl) (by rfl)) ⟨x, 218, _, rfl, upd_self _ _ _, set_218_is_readonly P, le900 (by rfl), ?_⟩)))
  rw [upd_upd]
  refine Exs.cons (Ex.setattr Gb rfl (Ev.tuple (As.nil ⟨len_small (by rfl), fun n hn => ?_⟩)))
  have hxn : x ≠ n := fun z => by subst z; dsimp only at hn; rw [upd_self] at hn; cases hn
  have hdn : d ≠ n := fun z => by subst z; dsimp only at hn; rw [upd_ne (Ne.symm hxd), upd_self] at hn; cases hn
  have hrn : r ≠ n := fun z => by subst z; dsimp only at hn; rw [upd_ne (Ne.symm hxr), upd_ne hrd, upd_self] at hn; cases hn
  refine (Pe.ev (Pe.l E (by rfl) (by rfl) (by rfl)) ⟨x, 218, _, rfl, by dsimp only; rw [upd_ne hxn, upd_self], set_218_flag_names P, le900 (by rfl), ?_⟩)
  have hn0 : σ.H n = none := by dsimp only at hn; rw [upd_ne (Ne.symm hxn), upd_ne (Ne.symm hdn), upd_ne (Ne.symm hrn)] at hn; exact hn
  refine Exs.nil ⟨rfl, k x r d n _ hx (fun y o _ q => ?_) (upd_self _ _ _) ?_ ?_ ?_ hr0 hd0 hn0⟩
  · have h1 : y ≠ x := fun z => by rw [z, hx] at q; cases q
    have h2 : y ≠ r := fun z => by rw [z, hr0] at q; cases q
    have h3 : y ≠ d := fun z => by rw [z, hd0] at q; cases q
    have h4 : y ≠ n := fun z => by rw [z, hn0] at q; cases q
    dsimp only
    rw [upd_ne h1, upd_ne h4, upd_ne h1, upd_ne h3, upd_ne h2]; exact q
  · dsimp only; rw [upd_ne (Ne.symm hxr), upd_ne hrn, upd_ne (Ne.symm hxr), upd_ne hrd, upd_self]
  · dsimp only; rw [upd_ne (Ne.symm hxd), upd_ne hdn, upd_ne (Ne.symm hxd), upd_self]
  · dsimp only; rw [upd_ne (Ne.symm hxn), upd_self]
end
end Mine
end
section
set_option maxRecDepth 100000
set_option Elab.async false
set_option linter.unusedVariables false
namespace Mine
open PySem PySem.W PySem.Calls PyProof.Rows

/-! The data -/
structure Rw where
  hid : Int
  known : Int
  fl : Option (List Str)
  ms : Int
def FlV (H : AH) : Option (List Str) → Value → Prop
  | none, v => v = .none
  | some l, v => ∃ a, v = .ref a ∧ H a = some (.tup (strVals l))
theorem FlV.handed {H : AH} {fl : Option (List Str)} {v : Value} (h : FlV H fl v) : handedIn v = true := by
  cases fl with
  | none => cases h; rfl
  | some l => obtain ⟨a, rfl, _⟩ := h; rfl
theorem FlV.isNone {H : AH} {fl : Option (List Str)} {v : Value} (h : FlV H fl v) : (v == Value.none) = fl.isNone := by
  cases fl with
  | none => cases h; rfl
  | some l => obtain ⟨a, rfl, _⟩ := h; rfl
def Tups (H H' : AH) : Prop := ∀ a vs, H a = some (.tup vs) → H' a = some (.tup vs)
theorem FlV.mono {H H' : AH} {fl : Option (List Str)} {v : Value} (h : FlV H fl v) (k : Tups H H') : FlV H' fl v := by
  cases fl with
  | none => exact h
  | some l => obtain ⟨a, e, q⟩ := h; exact ⟨a, e, k _ _ q⟩
def HeldAt (H : AH) (h : Addr) (r : Rw) : Prop := ∃ fv, FlV H r.fl fv ∧ H h = some (heldO r.known fv r.ms)
abbrev rowO (r : Rw) (fv : Value) : AO := .list [.int r.hid 0, .int r.known 0, fv, .int r.ms 0]
def RowAt (H : AH) (l : Addr) (r : Rw) : Prop := ∃ fv, FlV H r.fl fv ∧ H l = some (rowO r fv)
def refs (hs : List Addr) : List Value := hs.map .ref
theorem refs_len (hs : List Addr) : (refs hs).length = hs.length := by simp [refs]
theorem refs_get {hs : List Addr} {i : Nat} {v : Value} (h : (refs hs)[i]? = some v) : ∃ a, hs[i]? = some a ∧ v = .ref a := by
  unfold refs at h
  rw [List.getElem?_map] at h
  obtain ⟨a, h1, h2⟩ := Option.map_eq_some_iff.mp h
  exact ⟨a, h1, h2.symm⟩
theorem refs_at {hs : List Addr} {i : Nat} {a : Addr} (h : hs[i]? = some a) : (refs hs)[i]? = some (.ref a) := by
  unfold refs; rw [List.getElem?_map, h]; rfl
structure Helds (H : AH) (hs : List Addr) (R : List Rw) : Prop where
  len : hs.length = R.length
  at_ : ∀ (i : Nat) h r, hs[i]? = some h → R[i]? = some r → HeldAt H h r
structure RowsA (H : AH) (ls : List Addr) (R : List Rw) : Prop where
  len : ls.length = R.length
  at_ : ∀ (i : Nat) h r, ls[i]? = some h → R[i]? = some r → RowAt H h r
theorem Helds.both {H : AH} {hs : List Addr} {R : List Rw} (X : Helds H hs R) {i : Nat} {h : Addr} (e : hs[i]? = some h) : ∃ r, R[i]? = some r ∧ HeldAt H h r := by
  obtain ⟨hi, _⟩ := List.getElem?_eq_some_iff.mp e
  have : R[i]? = some (R[i]'(X.len ▸ hi)) := by simp [X.len ▸ hi]
  exact ⟨_, this, X.at_ i _ _ e this⟩
theorem Helds.both' {H : AH} {hs : List Addr} {R : List Rw} (X : Helds H hs R) {i : Nat} {r : Rw} (e : R[i]? = some r) : ∃ h, hs[i]? = some h ∧ HeldAt H h r := by
  obtain ⟨hi, _⟩ := List.getElem?_eq_some_iff.mp e
  have : hs[i]? = some (hs[i]'(X.len ▸ hi)) := by simp [X.len ▸ hi]
  exact ⟨_, this, X.at_ i _ _ this e⟩
theorem RowsA.both' {H : AH} {hs : List Addr} {R : List Rw} (X : RowsA H hs R) {i : Nat} {r : Rw} (e : R[i]? = some r) : ∃ h, hs[i]? = some h ∧ RowAt H h r := by
  obtain ⟨hi, _⟩ := List.getElem?_eq_some_iff.mp e
  have : hs[i]? = some (hs[i]'(X.len ▸ hi)) := by simp [X.len ▸ hi]
  exact ⟨_, this, X.at_ i _ _ this e⟩
theorem RowsA.both {H : AH} {hs : List Addr} {R : List Rw} (X : RowsA H hs R) {i : Nat} {h : Addr} (e : hs[i]? = some h) : ∃ r, R[i]? = some r ∧ RowAt H h r := by
  obtain ⟨hi, _⟩ := List.getElem?_eq_some_iff.mp e
  have : R[i]? = some (R[i]'(X.len ▸ hi)) := by simp [X.len ▸ hi]
  exact ⟨_, this, X.at_ i _ _ e this⟩
structure CopyIs (H : AH) (c : Addr) (d : CopyD) (hs : List Addr) (R : List Rw) : Prop where
  obj : H c = some (copyO d)
  rows : H d.rows = some (.list (refs hs))
  kept : H d.kept = some .edict
  helds : Helds H hs R
  small : R.length ≤ 1000
theorem CopyIs.lenR {H : AH} {c : Addr} {d : CopyD} {hs : List Addr} {R : List Rw} (X : CopyIs H c d hs R) : (refs hs).length = R.length := by rw [refs_len]; exact X.helds.len

section
variable {P : Params} {C : Cx} {σ : St} {Φ : Value → St → Prop} {c : Addr} {d : CopyD} {hs : List Addr} {R : List Rw}
theorem rows_pe {env : Env} {e : Expr} {ap : Pos} (G : Gr P C.b) (he : Pe C env e σ (.ref c)) (X : CopyIs σ.H c d hs R) 
    (ha : eval (.Attribute e "rows" ap) env = (do
      let o ← eval e env
      standAt ap.atName
      let r ← holding [o] (getAttr o "rows" true)
      letTemporaryGo e o r
      pure r) := by with_unfolding_all rfl) : Pe C env (.Attribute e "rows" ap) σ (.ref d.rows) := Pe.attr G he X.obj (get_218_rows P) (by rfl) (by rfl) ha
theorem uids_spec (G : Gr P C.b) (ok : OkA C.A 2) (X : CopyIs σ.H c d hs R)
    (k : ∀ a, σ.H a = none → Φ (.ref a) ⟨σ.m, upd σ.H a (.list (R.map fun r => .int r.known 0))⟩) : CodeTo C (.ref 191) [.ref c] σ Φ := by
  refine (f_uids P).call G ok (bind1 (n1 := "self") (fun x => by kernel_rfl) (by kernel_rfl)) fun b L env Gb okb E => ?_
  refine Exs.cons (Ex.ret ?_)
  refine Ev.compPL (C := C.call env b L) Gb okb.hd [("row", .local)] E (cl := []) (Nat.zero_le _) rfl (by decide) rfl (by decide) (by rfl) (by rfl) ?_
  refine Pe.ev (rows_pe Gb (Pe.l E (by rfl) (by rfl) (by rfl)) X) ⟨d.rows, refs hs, fun i => (R[i]?).map fun r => .int r.known 0, rfl, X.rows, len_k (by rw [X.lenR]; have := X.small; omega), fun b' L' F i v m env' Gb' Ec hv => ?_, fun n hn => ?_⟩
  · obtain ⟨h, hh, rfl⟩ := refs_get hv
    obtain ⟨r, hr, fv, hf, ho⟩ := X.helds.both hh
    dsimp only
    rw [hr]
    exact PureElt.one (Pe.attr Gb' (Pe.lm Ec (by rfl) (by rfl)) ho (get_168_uid P) (by rfl) (by rfl))
  · have := k n hn
    rw [X.lenR, filterMap_map]
    exact this
/-- what is missing -/
def missF (R : List Rw) (i : Nat) : Option Value := match R[i]? with
  | some r => if (!(decide (r.known > 0) && !r.fl.isNone)) = true then some (.int (1 + i) 0) else none
  | none => none
theorem missing_spec (G : Gr P C.b) (ok : OkA C.A 3) (X : CopyIs σ.H c d hs R)
    (k : ∀ H' a, Same σ.H H' → σ.H a = none → H' a = some (.list ((List.range R.length).filterMap (missF R))) → Φ (.ref a) ⟨σ.m, H'⟩) : CodeTo C (.ref 203) [.ref c] σ Φ := by
  refine (f_missing P).callC G ok (bindC1 (n1 := "self") (fun x => by kernel_rfl)) (by rfl) (by decide) fun b L env H₁ Gb okb E k₁ hc hn => ?_
  have hself := (hc "self" (L + 1) (by simp)).2
  have X₁ : CopyIs H₁ c d hs R := ⟨k₁.at X.obj, k₁.at X.rows, k₁.at X.kept, ⟨X.helds.len, fun i h r e1 e2 => let ⟨fv, hf, ho⟩ := X.helds.at_ i h r e1 e2; ⟨fv, hf.mono fun a vs q => k₁.at q, k₁.at ho⟩⟩, X.small⟩
  refine Exs.cons (Ex.ret ?_)
  refine Ev.compPR (C := C.call env b L) Gb okb.hd [("number", .local), ("self", .cell)] E (cl := [("self", L + 1)]) (Nat.le_refl _) (by
    obtain ⟨⟩ := env
    have := E.cells
    dsimp only at this
    subst this
    rfl) (by decide) rfl (by decide) (by rfl) (by rfl) ?_
  refine Ev.call Gb (Pe.ev (nm_range E Gb (by rfl)) ⟨.inr (.inl ⟨_, rfl⟩), ?_⟩)
  refine As.cons (Pe.ev Pe.int ?_)
  refine As.cons (Pe.ev (Pe.binop (call_len Gb E (by rfl) (rows_pe Gb (Pe.ce E (by rfl) (by rfl) hself (by rfl)) X₁) X₁.rows (by rw [X.lenR]; have := X.small; omega)) Pe.int OpTo.add) ?_)
  refine As.nil (CallTo.range2 fun r hr => ?_)
  have k₂ : Same H₁ (upd H₁ r (.range 1 ((refs hs).length + 1))) := Keep.new hr
  have X₂ : CopyIs (upd H₁ r (.range 1 ((refs hs).length + 1))) c d hs R := ⟨k₂.at X₁.obj, k₂.at X₁.rows, k₂.at X₁.kept, ⟨X.helds.len, fun i h r e1 e2 => let ⟨fv, hf, ho⟩ := X₁.helds.at_ i h r e1 e2; ⟨fv, hf.mono fun a vs q => k₂.at q, k₂.at ho⟩⟩, X.small⟩
  refine ⟨r, 1, R.length, missF R, rfl, by dsimp only; rw [upd_self, X.lenR]; congr 2; omega, by omega, by omega, by have := X.small; omega, fun b' L' F i m env' Gb' Ec hi => ?_, fun l hl => ?_⟩
  · have hri : R[i]? = some R[i] := by simp [hi]
    obtain ⟨h, hh, fv, hf, ho⟩ := X₂.helds.both' hri
    unfold missF
    rw [hri]
    refine PureElt.ifs (x := !(decide (R[i].known > 0) && !R[i].fl.isNone)) (Pt.not (Pt.ev ?_)) fun _ => Pe.lm Ec (by rfl) (by rfl)
    refine Ev.meth Gb' (Pe.ev (Pe.item (rows_pe Gb' (Pe.ce Ec (by rfl) (by rfl) (k₂.at hself) (by rfl)) X₂) (Pe.binop (Pe.lm Ec (by rfl) (by rfl)) Pe.int OpTo.sub) X₂.rows ?_ ?_ (v := .ref h) ?_) ⟨h, 168, _, 158, rfl, ho, m_is_whole P, by rfl, As.nil (CodeTo.call (is_whole_spec Gb' (okb.le (by omega)) ho hf.handed (by rw [hf.isNone]; exact ⟨rfl, rfl⟩)))⟩)
    · omega
    · have := X.small; omega
    · have : (1 + (i : Int) - 1).toNat = i := by omega
      rw [this]; exact refs_at hh
  · refine k _ l (fun y o hy q => ?_) ?_ (upd_self _ _ _)
    · have h1 := k₂.at (k₁.at q)
      have : y ≠ l := fun z => by subst z; dsimp only at hl; rw [h1] at hl; cases hl
      dsimp only
      rw [upd_ne this]; exact h1
    · cases q : σ.H l with
      | none => rfl
      | some o => have := k₂.at (k₁.at q); dsimp only at hl; rw [this] at hl; cases hl
theorem row_spec (G : Gr P C.b) (ok : OkA C.A 2) (X : CopyIs σ.H c d hs R) {i : Nat} {h : Addr} (hh : hs[i]? = some h) (k : Φ (.ref h) σ) : CodeTo C (.ref 198) [.ref c, .int (i + 1) 0] σ Φ := by
  refine (f_row P).call G ok (bind2 (n1 := "self") (n2 := "number") (fun x y => by kernel_rfl) (by kernel_rfl) (by kernel_rfl)) fun b L env Gb okb E => ?_
  have hi : i < R.length := by rw [← X.helds.len]; exact (List.getElem?_eq_some_iff.mp hh).1
  have hz := X.small
  refine Exs.cons (Ex.ifP (Pt.not (Pt.chain (x := true) (y := true) Pe.int (Pe.l E (by rfl) (by rfl) (by rfl)) ?_ (fun _ => ⟨call_len Gb E (by rfl) (rows_pe Gb (Pe.l E (by rfl) (by rfl) (by rfl)) X) X.rows (by rw [X.lenR]; omega), ?_⟩) (by rfl))) (fun q => absurd q (by decide)) fun _ => Exs.nil ?_)
  · have := @CmpTo.le (C.call env b L) 1 (i + 1) 0 0
    rwa [decide_eq_true (by omega)] at this
  · have := @CmpTo.le (C.call env b L) (i + 1) (refs hs).length 0 0
    rwa [decide_eq_true (by rw [X.lenR]; omega)] at this
  refine Exs.cons (Ex.ret (Pe.ev (Pe.item (rows_pe Gb (Pe.l E (by rfl) (by rfl) (by rfl)) X) (Pe.binop (Pe.l E (by rfl) (by rfl) (by rfl)) Pe.int OpTo.sub) X.rows (by omega) (by omega) (by
          have : ((i : Int) + 1 - 1).toNat = i := by omega
          rw [this]; exact refs_at hh)) ?_))
  exact k
end
end Mine
end
section
set_option maxRecDepth 100000
set_option Elab.async false
set_option linter.unusedVariables false
namespace Mine
open PySem PySem.W PySem.Calls PyProof.Rows

theorem Same.tups {H H' : AH} (k : Same H H') : Tups H H' := fun a vs q => k.at q
theorem HeldAt.same {H H' : AH} {h : Addr} {r : Rw} (X : HeldAt H h r) (k : Same H H') : HeldAt H' h r := let ⟨fv, a, b⟩ := X; ⟨fv, a.mono k.tups, k.at b⟩
theorem RowAt.same {H H' : AH} {h : Addr} {r : Rw} (X : RowAt H h r) (k : Same H H') : RowAt H' h r := let ⟨fv, a, b⟩ := X; ⟨fv, a.mono k.tups, k.at b⟩
theorem Helds.same {H H' : AH} {hs : List Addr} {R : List Rw} (X : Helds H hs R) (k : Same H H') : Helds H' hs R := ⟨X.len, fun i h r a b => (X.at_ i h r a b).same k⟩
theorem RowsA.same {H H' : AH} {hs : List Addr} {R : List Rw} (X : RowsA H hs R) (k : Same H H') : RowsA H' hs R := ⟨X.len, fun i h r a b => (X.at_ i h r a b).same k⟩
theorem CopyIs.same {H H' : AH} {c : Addr} {d : CopyD} {hs : List Addr} {R : List Rw} (X : CopyIs H c d hs R) (k : Same H H') : CopyIs H' c d hs R := ⟨k.at X.obj, k.at X.rows, k.at X.kept, X.helds.same k, X.small⟩
theorem same_new {H : AH} {a : Addr} {o : AO} (h : H a = none) : Same H (upd H a o) := Keep.new h
theorem Same.none {H H' : AH} {a : Addr} (k : Same H H') (h : H' a = none) : H a = none := by
  cases q : H a with
  | none => rfl
  | some o => rw [k.at q] at h; cases h

/-! What is told -/
def Told (H : AH) (vs : List Value) (R : List Rw) : Prop := vs.length = R.length ∧ ∀ (i : Nat) v r, vs[i]? = some v → R[i]? = some r → ∃ a fv, v = .ref a ∧ FlV H r.fl fv ∧ H a = some (.tup [.int r.known 0, fv, .int r.ms 0])
theorem Told.nil {H : AH} : Told H [] [] := ⟨rfl, fun i v r h => by simp at h⟩
theorem Told.same {H H' : AH} {vs : List Value} {R : List Rw} (X : Told H vs R) (k : Same H H') : Told H' vs R := ⟨X.1, fun i v r a b => let ⟨x, fv, e, f, o⟩ := X.2 i v r a b; ⟨x, fv, e, f.mono k.tups, k.at o⟩⟩
theorem snoc_get {α : Type} {l : List α} {a v : α} {i : Nat} (h : (l ++ [a])[i]? = some v) : (l[i]? = some v) ∨ (i = l.length ∧ v = a) := by
  rcases Nat.lt_or_ge i l.length with q | q
  · rw [List.getElem?_append_left q] at h; exact .inl h
  · rw [List.getElem?_append_right q] at h
    rcases Nat.lt_or_ge (i - l.length) 1 with q2 | q2
    · have : i - l.length = 0 := by omega
      rw [this] at h
      simp at h
      exact .inr ⟨by omega, h.symm⟩
    · have := List.getElem?_eq_none (l := [a]) (i := i - l.length) (by simpa using q2)
      rw [this] at h; cases h
theorem Told.snoc {H : AH} {vs : List Value} {R : List Rw} {a : Addr} {r : Rw} {fv : Value} (X : Told H vs R) (hf : FlV H r.fl fv) (ho : H a = some (.tup [.int r.known 0, fv, .int r.ms 0])) : Told H (vs ++ [.ref a]) (R ++ [r]) := by
  refine ⟨by simp [X.1], fun i v r' h1 h2 => ?_⟩
  rcases snoc_get h1 with h1 | ⟨e1, e2⟩ <;> rcases snoc_get h2 with h2 | ⟨e3, e4⟩
  · exact X.2 i v r' h1 h2
  · have := (List.getElem?_eq_some_iff.mp h1).1; have := X.1; omega
  · have := (List.getElem?_eq_some_iff.mp h2).1; have := X.1; omega
  · subst e2 e4; exact ⟨a, fv, rfl, hf, ho⟩
theorem take_snoc {α : Type} {R : List α} {i : Nat} {r : α} (h : R[i]? = some r) : R.take (i + 1) = R.take i ++ [r] := by rw [List.take_add_one, h]; rfl
section
variable {P : Params} {C : Cx} {σ : St} {Φ : Value → St → Prop} {c : Addr} {d : CopyD} {hs : List Addr} {R : List Rw}
theorem copy_told_spec (G : Gr P C.b) (ok : OkA C.A 3) (X : CopyIs σ.H c d hs R)
    (k : ∀ H' t u vs, Same σ.H H' → H' t = some (.tup [.str "" 0, .int 0 0, .ref u]) → H' u = some (.tup vs) → Told H' vs R → Φ (.ref t) ⟨σ.m, H'⟩) : CodeTo C (.ref 208) [.ref c] σ Φ := by
  refine (f_copy_told P).call G ok (bind1 (n1 := "self") (fun x => by kernel_rfl) (by kernel_rfl)) fun b L env Gb okb E => ?_
  refine Exs.cons (Ex.ret (Ev.tuple ?_))
  refine As.cons (Pe.ev (Pe.attr Gb (Pe.l E (by rfl) (by rfl) (by rfl)) X.obj (get_218_box P) (by rfl) (by rfl)) ?_)
  refine As.cons (Pe.ev (Pe.attr Gb (Pe.l E (by rfl) (by rfl) (by rfl)) X.obj (get_218_validity P) (by rfl) (by rfl)) ?_)
  refine As.cons (Ev.call Gb (Pe.ev (nm_tuple E Gb (by rfl)) ⟨.inr (.inl ⟨_, rfl⟩), As.cons ?_⟩))
  refine Ev.compE (C := C.call env b L) Gb okb.hd [("row", .local)] E (cl := []) (Nat.zero_le _) rfl (by decide) rfl (by decide) (by rfl) (by rfl) ?_
  refine Pe.ev (rows_pe Gb (Pe.l E (by rfl) (by rfl) (by rfl)) X) ⟨d.rows, refs hs, _, _, rfl, IterOver.list (C := C.call env b L) okb.hd d.rows (refs hs), X.rows, MakesIter.list X.rows, len_k (by rw [X.lenR]; have := X.small; omega), fun i acc σ' => Same σ.H σ'.H ∧ Told σ'.H acc (R.take i), ⟨Keep.refl, Told.nil⟩, fun i acc σ' h => h.1.at X.rows, fun b' L' F i v acc σ' env' Gb' Ec hv ⟨h1, h2⟩ => ?_, fun acc σ' ⟨h1, h2⟩ n hn => ?_⟩
  · obtain ⟨h, hh, rfl⟩ := refs_get hv
    obtain ⟨r, hr, fv, hf, ho⟩ := X.helds.both hh
    refine CompElt.one ?_
    refine Ev.meth Gb' (Pe.ev (Pe.lm Ec (by rfl) (by rfl)) ⟨h, 168, _, 165, rfl, h1.at ho, m_held_told P, by rfl, As.nil (CodeTo.call (held_told_spec Gb' (okb.le (by omega)) (h1.at ho) hf.handed fun a ha => ?_))⟩)
    refine ⟨h1.trans (same_new ha), ?_⟩
    rw [take_snoc hr]
    exact (h2.same (same_new ha)).snoc (hf.mono (Same.tups (h1.trans (same_new ha)))) (upd_self _ _ _)
  · refine As.nil (CallTo.tuple (upd_self _ _ _) (len_k ?_) fun u hu => As.nil ⟨len_small (by rfl), fun t ht => ?_⟩)
    · have := h2.1; rw [X.lenR, List.take_length] at this; have := X.small; omega
    · dsimp only at hu ht
      have k1 : Same σ'.H (upd (upd (upd σ'.H n (.list acc)) u (.tup acc)) t (.tup [.str "" 0, .int 0 0, .ref u])) := ((same_new hn).trans (same_new hu)).trans (same_new ht)
      have hut : u ≠ t := fun z => by rw [← z, upd_self] at ht; cases ht
      refine k _ t u acc (h1.trans k1) (upd_self _ _ _) (by dsimp only; rw [upd_ne hut, upd_self]) ?_
      have := h2.same k1
      rw [X.lenR, List.take_length] at this
      exact this
end
end Mine
end
section
set_option maxRecDepth 100000
set_option Elab.async false
set_option linter.unusedVariables false
namespace Mine
open PySem PySem.W PySem.Calls PyProof.Rows

/-! Ascending intervals -/
structure Asc (ps : List (Int × Int)) : Prop where
  each : ∀ (i : Nat) p, ps[i]? = some p → 1 ≤ p.1 ∧ p.1 ≤ p.2
  gap : ∀ (i : Nat) p q, ps[i]? = some p → ps[i + 1]? = some q → p.2 < q.1
theorem Asc.fst {ps : List (Int × Int)} (A : Asc ps) : ∀ (i : Nat) p q, ps[i]? = some p → ps[i + 1]? = some q → p.1 < q.1 := fun i p q a b => by
  have := A.each i p a; have := A.gap i p q a b; omega
theorem snoc_lt {α : Type} {l : List α} {a v : α} {i : Nat} (h : (l ++ [a])[i]? = some v) (hi : i < l.length) : l[i]? = some v := by
  rw [List.getElem?_append_left hi] at h; exact h
theorem snoc_last {α : Type} {l : List α} {a : α} : (l ++ [a])[l.length]? = some a := by simp
theorem Asc.pre {ps : List (Int × Int)} {p : Int × Int} (A : Asc (ps ++ [p])) : Asc ps := ⟨fun i q h => A.each i q (by rw [List.getElem?_append_left (List.getElem?_eq_some_iff.mp h).1]; exact h), fun i q r h h' => A.gap i q r (by rw [List.getElem?_append_left (List.getElem?_eq_some_iff.mp h).1]; exact h) (by rw [List.getElem?_append_left (List.getElem?_eq_some_iff.mp h').1]; exact h')⟩
theorem Asc.snoc {ps : List (Int × Int)} {p : Int × Int} (A : Asc ps) (hp : 1 ≤ p.1 ∧ p.1 ≤ p.2) (hg : ∀ q, ps.getLast? = some q → q.2 < p.1) : Asc (ps ++ [p]) := by
  refine ⟨fun i q h => ?_, fun i q r h h' => ?_⟩
  · rcases Nat.lt_or_ge i ps.length with l | l
    · exact A.each i q (snoc_lt h l)
    · rw [List.getElem?_append_right l] at h
      have : i - ps.length = 0 := by
        have := (List.getElem?_eq_some_iff.mp h).1
        simp at this; omega
      rw [this] at h; simp at h; subst h; exact hp
  · rcases Nat.lt_or_ge (i + 1) ps.length with l | l
    · exact A.gap i q r (snoc_lt h (by omega)) (snoc_lt h' l)
    · rw [List.getElem?_append_right l] at h'
      have e : i + 1 - ps.length = 0 := by
        have := (List.getElem?_eq_some_iff.mp h').1
        simp at this; omega
      rw [e] at h'; simp at h'; subst h'
      refine hg q ?_
      have hi : i < ps.length := by omega
      rw [List.getLast?_eq_getElem?, show ps.length - 1 = i by omega]
      exact snoc_lt h hi
theorem getLast_snoc {α : Type} {l : List α} {a : α} : (l ++ [a]).getLast? = some a := by simp
theorem Asc.last {ps : List (Int × Int)} {p q : Int × Int} (A : Asc (ps ++ [p])) (h : ps.getLast? = some q) : q.2 < p.1 := by
  rw [List.getLast?_eq_getElem?] at h
  have hl := (List.getElem?_eq_some_iff.mp h).1
  refine A.gap (ps.length - 1) q p (by rw [List.getElem?_append_left hl]; exact h) ?_
  rw [show ps.length - 1 + 1 = ps.length by omega]
  exact snoc_last
theorem Asc.lastp {ps : List (Int × Int)} {p : Int × Int} (A : Asc (ps ++ [p])) : 1 ≤ p.1 ∧ p.1 ≤ p.2 := A.each ps.length p snoc_last

def mstep (out : List (Int × Int)) (p : Int × Int) : List (Int × Int) := match out.getLast? with
  | some q => if p.1 ≤ q.2 + 1 then out.dropLast ++ [(q.1, max q.2 p.2)] else out ++ [p]
  | none => out ++ [p]
def merge (ps : List (Int × Int)) : List (Int × Int) := ps.foldl mstep []
theorem merge_snoc {ps : List (Int × Int)} {p : Int × Int} : merge (ps ++ [p]) = mstep (merge ps) p := by simp [merge, List.foldl_append]
def flat (ps : List (Int × Int)) : List Value := ps.flatMap fun p => rvals p.1 (p.2 - p.1 + 1).toNat
theorem flat_app {a b : List (Int × Int)} : flat (a ++ b) = flat a ++ flat b := by simp [flat]
theorem flat_one {p : Int × Int} : flat [p] = rvals p.1 (p.2 - p.1 + 1).toNat := by simp [flat]
theorem rvals_add (lo : Int) (n m : Nat) : rvals lo (n + m) = rvals lo n ++ rvals (lo + n) m := by
  unfold rvals
  rw [List.range_add, List.map_append, List.map_map]
  congr 1
  apply List.map_congr_left
  intro i _
  simp only [Function.comp]
  congr 1
  omega
theorem merge_ok : ∀ (n : Nat) (ps : List (Int × Int)), ps.length = n → Asc ps → Asc (merge ps) ∧ flat (merge ps) = flat ps ∧ (merge ps).length ≤ ps.length ∧ (ps ≠ [] → merge ps ≠ []) ∧ (∀ p, ps.getLast? = some p → ∃ q, (merge ps).getLast? = some q ∧ q.2 = p.2)
  | 0, ps, h, A => by
    have : ps = [] := List.length_eq_zero_iff.mp h
    subst this
    exact ⟨A, rfl, Nat.le_refl _, fun h => absurd rfl h, fun p h => by simp at h⟩
  | n + 1, ps, h, A => by
    have hne : ps ≠ [] := by intro q; subst q; simp at h
    obtain ⟨qs, p, rfl⟩ : ∃ qs p, ps = qs ++ [p] := ⟨ps.dropLast, ps.getLast hne, (List.dropLast_concat_getLast hne).symm⟩
    obtain ⟨i1, i2, i3, i4, i5⟩ := merge_ok n qs (by simpa using h) A.pre
    have hp := A.lastp
    rw [merge_snoc]
    unfold mstep
    cases hl : (merge qs).getLast? with
    | none =>
      have hm : merge qs = [] := List.getLast?_eq_none_iff.mp hl
      have hq : qs = [] := by
        cases qs with
        | nil => rfl
        | cons a r => exact absurd hm (i4 (by simp))
      subst hq
      rw [hm]
      show Asc [p] ∧ flat [p] = flat [p] ∧ _ ∧ _ ∧ _
      exact ⟨A, rfl, by simp, by simp, fun p' h => ⟨p, by simp, by simp at h; rw [h]⟩⟩
    | some q =>
      dsimp only
      have hqs : qs ≠ [] := by rintro rfl; simp [merge] at hl
      obtain ⟨q', hq', e⟩ := i5 (qs.getLast hqs) (List.getLast?_eq_some_getLast hqs)
      rw [hl] at hq'
      have hqq : q = q' := Option.some.inj hq'
      subst hqq
      have hlt : q.2 < p.1 := by
        rw [e]; exact A.last (List.getLast?_eq_some_getLast hqs)
      have hmne : merge qs ≠ [] := i4 hqs
      have hsplit : merge qs = (merge qs).dropLast ++ [q] := by
        have := (List.dropLast_concat_getLast hmne).symm
        rw [List.getLast?_eq_some_getLast hmne] at hl
        rw [Option.some.inj hl] at this
        exact this
      split
      · rename_i hle
        have hmax : max q.2 p.2 = p.2 := by omega
        rw [hmax]
        rw [hsplit] at i1
        have hqe := i1.lastp
        refine ⟨(i1.pre).snoc ⟨hqe.1, by dsimp only; omega⟩ fun r hr => i1.last hr, ?_, ?_, by simp, fun p' h => ⟨(q.1, p.2), by simp, by simp at h; rw [h]⟩⟩
        · rw [flat_app, flat_app (a := qs), ← i2]
          have : flat (merge qs) = flat (merge qs).dropLast ++ flat [q] := by rw [← flat_app, ← hsplit]
          rw [this, List.append_assoc]
          congr 1
          rw [flat_one, flat_one, flat_one]
          dsimp only
          have e1 : (p.2 - q.1 + 1).toNat = (q.2 - q.1 + 1).toNat + (p.2 - p.1 + 1).toNat := by omega
          rw [e1, rvals_add]
          congr 2
          omega
        · rw [List.length_append, List.length_dropLast, List.length_append]
          simp; omega
      · rename_i hle
        refine ⟨i1.snoc hp fun r hr => ?_, by rw [flat_app, flat_app, i2], by simp; omega, by simp, fun p' h => ⟨p, by simp, by simp at h; rw [h]⟩⟩
        rw [hl] at hr
        cases hr
        exact hlt
theorem Asc.le_last {ps : List (Int × Int)} (A : Asc ps) {q : Int × Int} (hq : ps.getLast? = some q) : ∀ (k i : Nat) p, ps.length = i + 1 + k → ps[i]? = some p → p.2 ≤ q.2
  | 0, i, p, e, h => by
    rw [List.getLast?_eq_getElem?, show ps.length - 1 = i by omega, h] at hq
    cases hq; omega
  | k + 1, i, p, e, h => by
    have hi : i + 1 < ps.length := by omega
    have h' : ps[i + 1]? = some ps[i + 1] := by simp [hi]
    have := A.le_last hq k (i + 1) _ (by omega) h'
    have := A.gap i _ _ h h'
    have := A.each (i + 1) _ h'
    omega
theorem flat_self : ∀ (us : List Int), flat (us.map fun u => (u, u)) = us.map fun u => .int u 0
  | [] => rfl
  | u :: r => by
    show rvals u (u - u + 1).toNat ++ flat (r.map fun u => (u, u)) = _
    rw [flat_self r]
    have : (u - u + 1).toNat = 1 := by omega
    rw [this]
    show [Value.int (u + ((0 : Nat) : Int)) 0] ++ _ = _
    simp
theorem flat_len : ∀ (ps : List (Int × Int)), (∀ p ∈ ps, p.1 ≤ p.2) → ((flat ps).length : Int) = ps.foldl (fun a p => a + (p.2 - p.1 + 1)) 0
  | ps, h => by
    have : ∀ (ps : List (Int × Int)) (c : Int), (∀ p ∈ ps, p.1 ≤ p.2) → c + ((flat ps).length : Int) = ps.foldl (fun a p => a + (p.2 - p.1 + 1)) c := by
      intro ps
      induction ps with
      | nil => intro c _; simp [flat]
      | cons p r ih =>
        intro c h
        rw [List.foldl_cons, ← ih _ fun q hq => h q (.tail _ hq)]
        have := h p (.head _)
        have e : (flat (p :: r)).length = (p.2 - p.1 + 1).toNat + (flat r).length := by
          show (rvals p.1 (p.2 - p.1 + 1).toNat ++ flat r).length = _
          rw [List.length_append, rvals_len]
        rw [e]; omega
    have := this ps 0 h
    omega
end Mine
end
section
set_option maxRecDepth 100000
set_option Elab.async false
set_option linter.unusedVariables false
namespace Mine
open PySem PySem.W PySem.Calls PyProof.Rows

theorem pm_self {m : Str → Option Value} {x : Str} {v : Value} {H : AH} : (St.mk (putM m x v) H).m x = some v := by simp [putM]
theorem pm_ne {m : Str → Option Value} {x y : Str} {v : Value} {H : AH} {r : Option Value} (hb : (y == x) = false) (h : m y = r) : (St.mk (putM m x v) H).m y = r := by
  have : y ≠ x := by simpa using hb
  simp [putM, this, h]
theorem pq_ne {m : Str → Option Value} {x y : Str} {v : Value} {r : Option Value} (hb : (y == x) = false) (h : m y = r) : putM m x v y = r := by rw [putM_ne hb]; exact h
theorem same_put {H H' : AH} {a : Addr} {o : AO} (k : Same H H') (h : H a = none) : Same H (upd H' a o) := fun x ob hx q => by
  have : x ≠ a := fun z => by rw [z, h] at q; cases q
  rw [upd_ne this]; exact k x ob hx q
theorem IntPairs.same' {H H' : AH} {vs : List Value} {ps : List (Int × Int)} (P : IntPairs H vs ps) (k : Same H H') : IntPairs H' vs ps := P.mono fun T vs q => k.at q
theorem IntPairs.put {H : AH} {vs ws : List Value} {ps : List (Int × Int)} {a : Addr} {o : AO} (P : IntPairs H vs ps) (h : H a = some (.list ws)) : IntPairs (upd H a o) vs ps := P.mono fun T vs q => by
  have : T ≠ a := fun z => by rw [z, h] at q; cases q
  rw [upd_ne this]; exact q
theorem IntPairs.one {H : AH} {T : Addr} {a b : Int} (h : H T = some (.tup [.int a 0, .int b 0])) : IntPairs H [.ref T] [(a, b)] := .cons T a b h .nil
theorem IntPairs.splitL {H : AH} {ws : List Value} {ps : List (Int × Int)} (P : IntPairs H ws ps) : ps ≠ [] → ∃ ws' T ps' p, ws = ws' ++ [.ref T] ∧ ps = ps' ++ [p] ∧ IntPairs H ws' ps' ∧ H T = some (.tup [.int p.1 0, .int p.2 0]) := by
  induction P with
  | nil => intro h; exact absurd rfl h
  | cons T a b h P ih =>
    rename_i vs ps
    intro _
    cases ps with
    | nil => cases P; exact ⟨[], T, [], (a, b), rfl, rfl, .nil, h⟩
    | cons p r =>
      obtain ⟨ws', T', ps', p', e1, e2, P', h'⟩ := ih (by simp)
      exact ⟨.ref T :: ws', T', (a, b) :: ps', p', by rw [e1]; rfl, by rw [e2]; rfl, .cons T a b h P', h'⟩
theorem Pt.to {C : Cx} {env : Env} {e : Expr} {σ : St} {x y : Bool} (h : Pt C env e σ x) (q : x = y) : Pt C env e σ y := q ▸ h
theorem Pe.to {C : Cx} {env : Env} {e : Expr} {σ : St} {x y : Value} (h : Pe C env e σ x) (q : x = y) : Pe C env e σ y := q ▸ h
section
variable {P : Params} {C : Cx} {σ : St} {Φ : Value → St → Prop}
theorem ends_of_spec (G : Gr P C.b) (ok : OkA C.A 2) {T : Addr} {lo hi g : Int} (hT : σ.H T = some (.tup [.int lo 0, .int hi 0])) (h1 : 1 ≤ lo) (h2 : lo ≤ hi) (k : ∀ a, σ.H a = none → Φ (.ref a) ⟨σ.m, upd σ.H a (.tup [.int lo 0, .int hi 0])⟩) : CodeTo C (.ref 73) [.ref T, .int g 0] σ Φ := by
  refine (f_ends_of P).call G ok (bind2 (n1 := "pair") (n2 := "greatest") (fun x y => by kernel_rfl) (by kernel_rfl) (by kernel_rfl)) fun b L env Gb okb E => ?_
  refine Exs.cons (Ex.assign2 rfl rfl okb.hd E.kind (E.kinds _ _ (by rfl)) (E.kinds _ _ (by rfl)) E.loc (Pe.ev (Pe.l E (by rfl) (by rfl) (by rfl)) ⟨T, _, _, rfl, hT, ?_⟩))
  have e1 : (lo == 0) = false := by simp; omega
  have e2 : (hi == 0) = false := by simp; omega
  refine Exs.cons (Ex.ifP (c := false) ?_ (fun q => absurd q (by decide)) fun _ => Exs.nil ?_)
  · refine Pt.to (Pt.and2 (x := g == 0) (y := false) (Pt.cmp (Pe.l E (by rfl) (pm_ne (by rfl) (by rw [putM_ne (by rfl)]; rfl)) (by rfl)) Pe.int CmpTo.eq (by rfl)) fun _ => ?_) (Bool.and_false _)
    refine Pt.to (Pt.or2 (x := lo == 0) (y := hi == 0) (Pt.cmp (Pe.l E (by rfl) (pm_ne (by rfl) putM_self) (by rfl)) Pe.int CmpTo.eq (by rfl)) (fun _ => Pt.cmp (Pe.l E (by rfl) pm_self (by rfl)) Pe.int CmpTo.eq (by rfl))) (by rw [e1, e2]; rfl)
  refine Exs.cons (Ex.ifP (c := false) (Pt.to (Pt.cmp (Pe.l E (by rfl) (pm_ne (by rfl) putM_self) (by rfl)) Pe.int CmpTo.eq (by rfl)) e1) (fun q => absurd q (by decide)) fun _ => Exs.nil ?_)
  refine Exs.cons (Ex.ifP (c := false) (Pt.to (Pt.cmp (Pe.l E (by rfl) pm_self (by rfl)) Pe.int CmpTo.eq (by rfl)) e2) (fun q => absurd q (by decide)) fun _ => Exs.nil ?_)
  refine Exs.cons (Ex.ret (Ev.tuple ?_))
  refine As.cons (Ev.call Gb (Pe.ev (nm_min E Gb (by rfl)) ⟨.inl ⟨_, rfl⟩, As.cons (Pe.ev (Pe.l E (by rfl) (pm_ne (by rfl) putM_self) (by rfl)) (As.cons (Pe.ev (Pe.l E (by rfl) pm_self (by rfl)) (As.nil (CallTo.min2 okb.hd ?_)))))⟩))
  refine As.cons (Ev.call Gb (Pe.ev (nm_max E Gb (by rfl)) ⟨.inl ⟨_, rfl⟩, As.cons (Pe.ev (Pe.l E (by rfl) (pm_ne (by rfl) putM_self) (by rfl)) (As.cons (Pe.ev (Pe.l E (by rfl) pm_self (by rfl)) (As.nil (CallTo.max2 okb.hd ?_)))))⟩))
  refine As.nil ⟨len_small (by rfl), fun a ha => ?_⟩
  have e3 : min lo hi = lo := by omega
  have e4 : max lo hi = hi := by omega
  rw [e3, e4]
  exact k a ha
end
end Mine
end
section
set_option maxRecDepth 100000
set_option Elab.async false
set_option linter.unusedVariables false
namespace Mine
open PySem PySem.W PySem.Calls PyProof.Rows

theorem set_last {α : Type} {l : List α} {a b : α} : (l ++ [a]).set l.length b = l ++ [b] := by simp
section
variable {P : Params} {C : Cx} {σ : St} {Φ : Value → St → Prop}
theorem plain_set_spec (G : Gr P C.b) (ok : OkA C.A 3) {S : Addr} {vs : List Value} {ps : List (Int × Int)} {g : Int} (hS : σ.H S = some (.tup vs)) (PP : IntPairs σ.H vs ps) (A : Asc ps) (hne : ps ≠ []) (hz : ps.length ≤ 50)
    (k : ∀ H' t ws, Same σ.H H' → H' t = some (.tup ws) → IntPairs H' ws (merge ps) → Φ (.ref t) ⟨σ.m, H'⟩) : CodeTo C (.ref 80) [.ref S, .int g 0] σ Φ := by
  refine (f_plain_set P).call G ok (bind2 (n1 := "some") (n2 := "greatest") (fun x y => by kernel_rfl) (by kernel_rfl) (by kernel_rfl)) fun b L env Gb okb E => ?_
  refine Exs.cons (Ex.assign rfl E.kind (E.kinds _ _ (by rfl)) E.loc (Ev.list (As.nil ⟨len_small (by rfl), fun a ha => ?_⟩)))
  dsimp only at ha
  -- every pair is copied
  refine Exs.cons (Ex.forTu okb.hd E (by rfl) (Pe.ev (Pe.l E (by rfl) (pm_ne (by rfl) (by rfl)) (by rfl)) ⟨S, vs, rfl, (same_new ha).at hS, fun i σ' => σ'.m "pairs" = some (.ref a) ∧ σ'.m "greatest" = some (.int g 0) ∧ Same σ.H σ'.H ∧ ∃ ws, σ'.H a = some (.list ws) ∧ IntPairs σ'.H ws (ps.take i), ?_, ?_, ?_, ?_⟩))
  · exact ⟨pm_self, pm_ne (by rfl) (by rfl), same_new ha, [], upd_self _ _ _, .nil⟩
  · exact fun i σ' h => h.2.2.1.at hS
  · intro F i v σ' hv ⟨m1, m2, k1, ws, hw, PW⟩
    obtain ⟨T, p, rfl, hp, hT⟩ := PP.at hv
    have hp1 := A.each i p hp
    refine Exs.cons (Ex.assign rfl E.kind (E.kinds _ _ (by rfl)) E.loc (Ev.call Gb (Pe.ev (Pe.g E Gb (by rfl) (g_ends_of P) (by rfl)) ⟨k_ends_of P, As.cons (Pe.ev (Pe.l E (by rfl) pm_self (by rfl)) (As.cons (Pe.ev (Pe.l E (by rfl) (pm_ne (by rfl) m2) (by rfl)) (As.nil (CodeTo.call (ends_of_spec Gb okb (k1.at hT) hp1.1 hp1.2 fun e he => ?_))))))⟩)))
    refine Exs.cons (Ex.ifP (c := true) (Pt.cmp (Pe.l E (by rfl) pm_self (by rfl)) Pe.none_ CmpTo.isNotNone (by rfl)) (fun _ => ?_) fun q => absurd q (by decide))
    dsimp only at he
    have hae : a ≠ e := fun z => by rw [z] at hw; rw [hw] at he; cases he
    refine Exs.cons (Ex.expr (Ev.lmeth Gb PySem.F.slot_list_append PySem.F.type_list_append (Pe.ev (Pe.l E (by rfl) (pm_ne (by rfl) (pm_ne (by rfl) m1)) (by rfl)) ⟨a, ws, rfl, by dsimp only; rw [upd_ne hae]; exact hw, As.cons (Pe.ev (Pe.l E (by rfl) pm_self (by rfl)) (As.nil (CallTo.append (by dsimp only; rw [upd_ne hae]; exact hw) (len_k ?_) ?_)))⟩)) E.quiet rfl)
    · have := PW.len; rw [List.length_take] at this; omega
    refine Exs.nil (Exs.nil ⟨pm_ne (by rfl) (pm_ne (by rfl) m1), pm_ne (by rfl) (pm_ne (by rfl) m2), same_put (k1.trans (same_new he)) ha, _, upd_self _ _ _, ?_⟩)
    rw [take_snoc hp]
    have h1 : upd σ'.H e (.tup [.int p.1 0, .int p.2 0]) a = some (.list ws) := by rw [upd_ne hae]; exact hw
    exact ((PW.same' (same_new he)).put h1).app ((IntPairs.one (H := upd σ'.H e (.tup [.int p.1 0, .int p.2 0])) (upd_self _ _ _)).put h1)
  intro σ₁ ⟨m1, m2, k1, ws, hw, PW⟩
  have hlen := PP.len
  rw [hlen, List.take_length] at PW
  have hpos : 0 < ps.length := List.length_pos_iff.mpr hne
  -- the sort
  refine Exs.cons (Ex.expr (Ev.lmeth Gb PySem.F.slot_list_sort PySem.F.type_list_sort (Pe.ev (Pe.l E (by rfl) m1 (by rfl)) ⟨a, ws, rfl, hw, As.nil ?_⟩)) E.quiet rfl)
  have sorted : ∀ {Ψ : Value → St → Prop}, Ψ .none σ₁ → CallTo (C.call env b L) (.builtin "list.sort") [.ref a] σ₁ Ψ := fun {Ψ} h => by
    have hl2 := PW.len
    by_cases h2 : 2 ≤ ws.length
    · exact CallTo.sortPairs hw PW h2 (by omega) A.fst h
    · obtain ⟨v, rfl⟩ : ∃ v, ws = [v] := List.length_eq_one_iff.mp (by omega)
      exact CallTo.sort1 hw h
  refine sorted ?_
  refine Exs.cons (Ex.assign rfl E.kind (E.kinds _ _ (by rfl)) E.loc (Ev.list (As.nil ⟨len_small (by rfl), fun o ho => ?_⟩)))
  have ho0 : σ.H o = none := k1.none ho
  have hao : a ≠ o := fun z => by rw [z] at hw; rw [hw] at ho; cases ho
  -- they are joined
  refine Exs.cons (Ex.for2L okb.hd E (by rfl) (by rfl) (Pe.ev (Pe.l E (by rfl) (pm_ne (by rfl) m1) (by rfl)) ⟨a, ws, rfl, (same_new ho).at hw, fun i σ' => σ'.m "out" = some (.ref o) ∧ Same σ.H σ'.H ∧ Same σ₁.H σ'.H ∧ ∃ us, σ'.H o = some (.list us) ∧ IntPairs σ'.H us (merge (ps.take i)), ?_, ?_, ?_, ?_⟩))
  · exact ⟨pm_self, k1.trans (same_new ho), same_new ho, [], upd_self _ _ _, .nil⟩
  · exact fun i σ' h => h.2.2.1.at hw
  · intro F i v σ' hv ⟨n1, n2, n3, us, hu, PU⟩
    obtain ⟨T, p, rfl, hp, hT⟩ := PW.at hv
    refine ⟨T, _, _, rfl, n3.at hT, ?_⟩
    have hil : i < ps.length := (List.getElem?_eq_some_iff.mp hp).1
    obtain ⟨A1, _, hml, hmne, hmlast⟩ := merge_ok _ (ps.take i) rfl ⟨fun j q h => A.each j q (by rw [List.getElem?_take] at h; split at h; exact h; cases h), fun j q r h h' => A.gap j q r (by rw [List.getElem?_take] at h; split at h; exact h; cases h) (by rw [List.getElem?_take] at h'; split at h'; exact h'; cases h')⟩
    have hul : us.length ≤ 50 := by have := PU.len; rw [List.length_take] at hml; omega
    have e0 : merge (ps.take (i + 1)) = mstep (merge (ps.take i)) p := by rw [take_snoc hp, merge_snoc]
    by_cases hus : us = []
    · subst hus
      have hm0 : merge (ps.take i) = [] := by have := PU.len; exact List.length_eq_zero_iff.mp (by simpa using this.symm)
      refine Exs.cons (Ex.ifP (c := false) ?_ (fun q => absurd q (by decide)) fun _ => ?_)
      · refine Pt.and2 (x := false) (y := false) ?_ fun q => absurd q (by decide)
        exact Pt.cmp (call_len Gb E (by rfl) (Pe.l E (by rfl) (pm_ne (by rfl) (pq_ne (by rfl) n1)) (by rfl)) hu (by omega)) Pe.int CmpTo.gt (by rfl)
      · refine Exs.cons (Ex.expr (Ev.lmeth Gb PySem.F.slot_list_append PySem.F.type_list_append (Pe.ev (Pe.l E (by rfl) (pm_ne (by rfl) (pq_ne (by rfl) n1)) (by rfl)) ⟨o, [], rfl, hu, As.cons (Ev.tuple ?_)⟩)) E.quiet rfl)
        refine As.cons (Pe.ev (Pe.l E (by rfl) (pm_ne (by rfl) putM_self) (by rfl)) (As.cons (Pe.ev (Pe.l E (by rfl) pm_self (by rfl)) (As.nil ⟨len_small (by rfl), fun e he => As.nil ?_⟩))))
        have hoe : o ≠ e := fun z => by rw [z] at hu; dsimp only at he; rw [hu] at he; cases he
        have h1 : upd σ'.H e (.tup [.int p.1 0, .int p.2 0]) o = some (.list []) := by rw [upd_ne hoe]; exact hu
        refine CallTo.append h1 (len_small (by rfl)) ?_
        refine Exs.nil (Exs.nil ⟨pm_ne (by rfl) (pq_ne (by rfl) n1), same_put (n2.trans (same_new he)) ho0, same_put (n3.trans (same_new he)) ho, _, upd_self _ _ _, ?_⟩)
        rw [e0, hm0]
        exact (IntPairs.one (upd_self _ _ _)).put h1
    · have hmm : merge (ps.take i) ≠ [] := fun z => hus (List.length_eq_zero_iff.mp (by rw [PU.len, z]; rfl))
      obtain ⟨us', T', qs, q, rfl, e2, PQ, hT'⟩ := PU.splitL hmm
      have hT'' : (us' ++ [Value.ref T']).length = us'.length + 1 := by simp
      have hidx : (-1 + ((us' ++ [Value.ref T']).length : Int)).toNat = us'.length := by rw [hT'']; omega
      have hget : (us' ++ [Value.ref T'])[(-1 + ((us' ++ [Value.ref T']).length : Int)).toNat]? = some (.ref T') := by rw [hidx]; exact snoc_last
      refine Exs.cons (Ex.ifP (c := true && decide (p.1 ≤ q.2 + 1)) ?_ (fun hc => ?_) fun hc => ?_)
      · refine Pt.and2 (Pt.to (Pt.cmp (call_len Gb E (by rfl) (Pe.l E (by rfl) (pm_ne (by rfl) (pq_ne (by rfl) n1)) (by rfl)) hu (by omega)) Pe.int CmpTo.gt (by rfl)) (by rw [hT'']; simp)) fun _ => ?_
        exact Pt.cmp (Pe.l E (by rfl) (pm_ne (by rfl) putM_self) (by rfl)) (Pe.binop (Pe.itemT (Pe.itemN (Pe.l E (by rfl) (pm_ne (by rfl) (pq_ne (by rfl) n1)) (by rfl)) (Ev.neg Pe.int) hu (by decide) (by rw [hT'']; omega) (by decide) hget) Pe.int hT' (by decide) (by decide) (by rfl) (by rfl)) Pe.int OpTo.add) CmpTo.le (by rfl)
      · rw [Bool.true_and, decide_eq_true_eq] at hc
        refine Exs.cons (Ex.setitemN rfl (Ev.tuple ?_))
        refine As.cons (Pe.ev (Pe.itemT (Pe.itemN (Pe.l E (by rfl) (pm_ne (by rfl) (pq_ne (by rfl) n1)) (by rfl)) (Ev.neg Pe.int) hu (by decide) (by rw [hT'']; omega) (by decide) hget) Pe.int hT' (by decide) (by decide) (by rfl) (by rfl)) ?_)
        refine As.cons (Ev.call Gb (Pe.ev (nm_max E Gb (by rfl)) ⟨.inl ⟨_, rfl⟩, As.cons (Pe.ev (Pe.itemT (Pe.itemN (Pe.l E (by rfl) (pm_ne (by rfl) (pq_ne (by rfl) n1)) (by rfl)) (Ev.neg Pe.int) hu (by decide) (by rw [hT'']; omega) (by decide) hget) Pe.int hT' (by decide) (by decide) (by rfl) (by rfl))
          (As.cons (Pe.ev (Pe.l E (by rfl) pm_self (by rfl)) (As.nil (CallTo.max2 okb.hd ?_)))))⟩))
        refine As.nil ⟨len_small (by rfl), fun e he => ?_⟩
        have hoe : o ≠ e := fun z => by rw [z] at hu; dsimp only at he; rw [hu] at he; cases he
        have h1 : upd σ'.H e (.tup [.int q.1 0, .int (max q.2 p.2) 0]) o = some (.list (us' ++ [.ref T'])) := by rw [upd_ne hoe]; exact hu
        refine Pe.ev (Pe.l E (by rfl) (pm_ne (by rfl) (pq_ne (by rfl) n1)) (by rfl)) (Pe.ev (Ev.neg Pe.int) ⟨o, _, -1, 0, rfl, rfl, h1, by decide, by rw [hT'']; omega, by decide, ?_⟩)
        rw [hidx, set_last]
        refine Exs.nil (Exs.nil ⟨pm_ne (by rfl) (pq_ne (by rfl) n1), same_put (n2.trans (same_new he)) ho0, same_put (n3.trans (same_new he)) ho, _, upd_self _ _ _, ?_⟩)
        rw [e0, e2, mstep, getLast_snoc]
        dsimp only
        rw [if_pos hc, List.dropLast_concat]
        exact ((PQ.same' (same_new he)).put h1).app ((IntPairs.one (upd_self _ _ _)).put h1)
      · rw [Bool.true_and, decide_eq_false_iff_not] at hc
        refine Exs.cons (Ex.expr (Ev.lmeth Gb PySem.F.slot_list_append PySem.F.type_list_append (Pe.ev (Pe.l E (by rfl) (pm_ne (by rfl) (pq_ne (by rfl) n1)) (by rfl)) ⟨o, _, rfl, hu, As.cons (Ev.tuple ?_)⟩)) E.quiet rfl)
        refine As.cons (Pe.ev (Pe.l E (by rfl) (pm_ne (by rfl) putM_self) (by rfl)) (As.cons (Pe.ev (Pe.l E (by rfl) pm_self (by rfl)) (As.nil ⟨len_small (by rfl), fun e he => As.nil ?_⟩))))
        have hoe : o ≠ e := fun z => by rw [z] at hu; dsimp only at he; rw [hu] at he; cases he
        have h1 : upd σ'.H e (.tup [.int p.1 0, .int p.2 0]) o = some (.list (us' ++ [.ref T'])) := by rw [upd_ne hoe]; exact hu
        refine CallTo.append h1 (len_k (by omega)) ?_
        refine Exs.nil (Exs.nil ⟨pm_ne (by rfl) (pq_ne (by rfl) n1), same_put (n2.trans (same_new he)) ho0, same_put (n3.trans (same_new he)) ho, _, upd_self _ _ _, ?_⟩)
        rw [e0, mstep, e2, getLast_snoc]
        dsimp only
        rw [if_neg hc, ← e2]
        exact ((PU.same' (same_new he)).put h1).app ((IntPairs.one (upd_self _ _ _)).put h1)
  intro σ₂ ⟨n1, n2, n3, us, hu, PU⟩
  rw [PW.len, List.take_length] at PU
  have hml := (merge_ok _ ps rfl A).2.2.1
  refine Exs.cons (Ex.ret (Ev.call Gb (Pe.ev (nm_tuple E Gb (by rfl)) ⟨.inr (.inl ⟨_, rfl⟩), As.cons (Pe.ev (Pe.l E (by rfl) n1 (by rfl)) (As.nil (CallTo.tuple hu (len_k ?_) fun t ht => ?_)))⟩)))
  · rw [PU.len]; omega
  · exact k _ t us (n2.trans (same_new ht)) (upd_self _ _ _) (PU.same' (same_new ht))
end
end Mine
end
section
set_option maxRecDepth 100000
set_option Elab.async false
set_option linter.unusedVariables false
namespace Mine
open PySem PySem.W PySem.Calls PyProof.Rows

theorem flat_le : ∀ (n : Nat) (ps : List (Int × Int)), ps.length = n → Asc ps → ∀ p, ps.getLast? = some p → ((flat ps).length : Int) ≤ p.2
  | 0, ps, h, A, p, hp => by
    have : ps = [] := List.length_eq_zero_iff.mp h
    subst this; simp at hp
  | n + 1, ps, h, A, p, hp => by
    have hne : ps ≠ [] := by intro q; subst q; simp at h
    obtain ⟨qs, q, rfl⟩ : ∃ qs p, ps = qs ++ [p] := ⟨ps.dropLast, ps.getLast hne, (List.dropLast_concat_getLast hne).symm⟩
    rw [getLast_snoc] at hp
    cases hp
    have hq := A.lastp
    rw [flat_app, List.length_append, flat_one, rvals_len]
    cases hl : qs.getLast? with
    | none =>
      have : qs = [] := List.getLast?_eq_none_iff.mp hl
      subst this
      simp [flat]; omega
    | some r =>
      have := flat_le n qs (by simpa using h) A.pre r hl
      have := A.last hl
      omega
theorem Asc.take {ps : List (Int × Int)} (A : Asc ps) (i : Nat) : Asc (ps.take i) := ⟨fun j q h => A.each j q (by rw [List.getElem?_take] at h; split at h; exact h; cases h), fun j q r h h' => A.gap j q r (by rw [List.getElem?_take] at h; split at h; exact h; cases h) (by rw [List.getElem?_take] at h'; split at h'; exact h'; cases h')⟩
theorem Asc.bound {ps : List (Int × Int)} (A : Asc ps) {q : Int × Int} (hq : ps.getLast? = some q) {i : Nat} {p : Int × Int} (h : ps[i]? = some p) : p.2 ≤ q.2 :=
  A.le_last hq (ps.length - 1 - i) i p (by have := (List.getElem?_eq_some_iff.mp h).1; omega) h
theorem get_last {α : Type} {ps : List α} (h : ps ≠ []) : ∃ q, ps.getLast? = some q := ⟨_, List.getLast?_eq_some_getLast h⟩
/-- where the last pair of a row of pairs lies -/
theorem IntPairs.lastAt {H : AH} {ws : List Value} {ps : List (Int × Int)} (P : IntPairs H ws ps) {q : Int × Int} (hq : ps.getLast? = some q) : ∃ T, ws[ws.length - 1]? = some (.ref T) ∧ H T = some (.tup [.int q.1 0, .int q.2 0]) ∧ 0 < ws.length := by
  have hne : ps ≠ [] := by rintro rfl; simp at hq
  obtain ⟨ws', T, ps', p, e1, e2, _, hT⟩ := P.splitL hne
  subst e1 e2
  rw [getLast_snoc] at hq
  cases hq
  exact ⟨T, by simp, hT, by simp⟩
section
variable {P : Params} {C : Cx} {σ : St} {Φ : Value → St → Prop}
theorem settled_spec (G : Gr P C.b) (ok : OkA C.A 4) {S : Addr} {vs : List Value} {ps : List (Int × Int)} (hS : σ.H S = some (.tup vs)) (PP : IntPairs σ.H vs ps) (A : Asc ps) (hne : ps ≠ []) (hz : ps.length ≤ 50)
    (k : ∀ H' t ws, Same σ.H H' → H' t = some (.tup ws) → IntPairs H' ws (merge ps) → Φ (.ref t) ⟨σ.m, H'⟩) : CodeTo C (.ref 87) [.ref S] σ Φ := by
  refine (f_settled P).call G ok (bind1 (n1 := "some") (fun x => by kernel_rfl) (by kernel_rfl)) fun b L env Gb okb E => ?_
  have hlen := PP.len
  refine Exs.cons (Ex.forR okb.hd E (by rfl) (Ev.call Gb (Pe.ev (nm_range E Gb (by rfl)) ⟨.inr (.inl ⟨_, rfl⟩), As.cons (Pe.ev (call_lenT Gb E (by rfl) (Pe.l E (by rfl) (by rfl) (by rfl)) hS (by omega)) (As.nil (CallTo.range1 fun r hr =>
    ⟨r, 0, vs.length, rfl, upd_self _ _ _, by omega, by omega, by omega, fun i σ' => σ'.m "some" = some (.ref S) ∧ Same σ.H σ'.H, ⟨by rfl, same_new hr⟩, ?_, ?_⟩)))⟩)))
  · intro F i σ' hi ⟨m1, k1⟩
    have hv : vs[i]? = some vs[i] := by simp [hi]
    obtain ⟨T, p, eT, hp, hT⟩ := PP.at hv
    rw [eT] at hv
    have hp1 := A.each i p hp
    have hj : seqIndex? (0 + (i : Int)) vs.length = some i := by rw [Int.zero_add]; exact seqIndex_of (by omega) (by omega)
    refine Exs.cons (Ex.ifP (c := false) (Pt.to (Pt.or2 (x := p.1 == 0) (y := p.2 == 0) ?_ fun _ => ?_) (by simp; omega)) (fun q => absurd q (by decide)) fun _ => Exs.nil (Exs.nil ⟨pm_ne (by rfl) m1, k1⟩))
    · exact Pt.cmp (Pe.itemT (Pe.itemT (Pe.l E (by rfl) (pm_ne (by rfl) m1) (by rfl)) (Pe.l E (by rfl) pm_self (by rfl)) (k1.at hS) (by omega) (by omega) hj hv) Pe.int (k1.at hT) (by decide) (by decide) (by rfl) (by rfl)) Pe.int CmpTo.eq (by rfl)
    · exact Pt.cmp (Pe.itemT (Pe.itemT (Pe.l E (by rfl) (pm_ne (by rfl) m1) (by rfl)) (Pe.l E (by rfl) pm_self (by rfl)) (k1.at hS) (by omega) (by omega) hj hv) Pe.int (k1.at hT) (by decide) (by decide) (by rfl) (by rfl)) Pe.int CmpTo.eq (by rfl)
  · intro σ' ⟨m1, k1⟩
    refine Exs.cons (Ex.ret (Ev.call Gb (Pe.ev (Pe.g E Gb (by rfl) (g_plain_set P) (by rfl)) ⟨k_plain_set P, As.cons (Pe.ev (Pe.l E (by rfl) m1 (by rfl)) (As.cons (Pe.ev Pe.int (As.nil (CodeTo.call (plain_set_spec Gb okb (k1.at hS) (PP.same' k1) A hne hz fun H' t ws k2 ht PW => ?_))))))⟩)))
    exact k H' t ws (k1.trans k2) ht PW
theorem size_of_spec (G : Gr P C.b) (ok : OkA C.A 5) {S : Addr} {vs : List Value} {ps : List (Int × Int)} (hS : σ.H S = some (.tup vs)) (PP : IntPairs σ.H vs ps) (A : Asc ps) (hne : ps ≠ []) (hz : ps.length ≤ 50)
    (k : ∀ H', Same σ.H H' → Φ (.int (flat ps).length 0) ⟨σ.m, H'⟩) : CodeTo C (.ref 108) [.ref S] σ Φ := by
  refine (f_size_of P).call G ok (bind1 (n1 := "some") (fun x => by kernel_rfl) (by kernel_rfl)) fun b L env Gb okb E => ?_
  obtain ⟨A1, fl, ml, mne, mlast⟩ := merge_ok _ ps rfl A
  refine Exs.cons (Ex.assign rfl E.kind (E.kinds _ _ (by rfl)) E.loc (Pe.ev Pe.int ?_))
  refine Exs.cons (Ex.for2T okb.hd E (by rfl) (by rfl) (Ev.call Gb (Pe.ev (Pe.g E Gb (by rfl) (g_settled P) (by rfl)) ⟨k_settled P, As.cons (Pe.ev (Pe.l E (by rfl) (pm_ne (by rfl) (by rfl)) (by rfl)) (As.nil (CodeTo.call (settled_spec Gb okb hS PP A hne hz fun H' t ws k2 ht PW =>
    ⟨t, ws, rfl, ht, fun i σ' => Same H' σ'.H ∧ σ'.m "count" = some (.int ((merge ps).take i |>.foldl (fun a p => a + (p.2 - p.1 + 1)) 0) 0), ⟨Keep.refl, ?_⟩, fun i σ' h => h.1.at ht, ?_, ?_⟩))))⟩)))
  · exact pm_self
  · intro F i v σ' hv ⟨k3, m1⟩
    obtain ⟨T, p, rfl, hp, hT⟩ := PW.at hv
    refine ⟨T, _, _, rfl, k3.at hT, ?_⟩
    refine Exs.cons (Ex.aug E.kind (E.kinds _ _ (by rfl)) E.loc (pm_ne (by rfl) (pq_ne (by rfl) m1)) (Pe.binop (Pe.binop (Pe.l E (by rfl) pm_self (by rfl)) (Pe.l E (by rfl) (pm_ne (by rfl) putM_self) (by rfl)) OpTo.sub) Pe.int OpTo.add) IOpTo.add (Exs.nil ⟨k3, ?_⟩))
    rw [take_snoc hp, List.foldl_append]
    exact pm_self
  · intro σ' ⟨k3, m1⟩
    rw [PW.len, List.take_length, ← flat_len _ (fun p hp => by obtain ⟨i, hi, e⟩ := List.getElem_of_mem hp; exact (A1.each i p (by rw [List.getElem?_eq_getElem hi, e])).2), fl] at m1
    exact Exs.cons (Ex.ret (Pe.ev (Pe.l E (by rfl) m1 (by rfl)) (k _ (k2.trans k3))))
theorem numbers_in_spec (G : Gr P C.b) (ok : OkA C.A 4) {S : Addr} {vs : List Value} {ps : List (Int × Int)} {q : Int × Int} (hS : σ.H S = some (.tup vs)) (PP : IntPairs σ.H vs ps) (A : Asc ps) (hq : ps.getLast? = some q) (hz : ps.length ≤ 50) (hb : q.2 ≤ 50000)
    (k : ∀ H' a, Same σ.H H' → σ.H a = none → H' a = some (.list (flat ps)) → Φ (.ref a) ⟨σ.m, H'⟩) : CodeTo C (.ref 101) [.ref S, .int q.2 0] σ Φ := by
  refine (f_numbers_in P).call G ok (bind2 (n1 := "some") (n2 := "greatest") (fun x y => by kernel_rfl) (by kernel_rfl) (by kernel_rfl)) fun b L env Gb okb E => ?_
  have hne : ps ≠ [] := by rintro rfl; simp at hq
  obtain ⟨A1, fl, ml, mne, mlast⟩ := merge_ok _ ps rfl A
  obtain ⟨q', hq', e2⟩ := mlast q hq
  refine Exs.cons (Ex.assign rfl E.kind (E.kinds _ _ (by rfl)) E.loc (Ev.list (As.nil ⟨len_small (by rfl), fun a ha => ?_⟩)))
  dsimp only at ha
  refine Exs.cons (Ex.for2T okb.hd E (by rfl) (by rfl) (Ev.call Gb (Pe.ev (Pe.g E Gb (by rfl) (g_plain_set P) (by rfl)) ⟨k_plain_set P, As.cons (Pe.ev (Pe.l E (by rfl) (pm_ne (by rfl) (by rfl)) (by rfl)) (As.cons (Pe.ev (Pe.l E (by rfl) (pm_ne (by rfl) (by rfl)) (by rfl)) (As.nil (CodeTo.call (plain_set_spec Gb okb ((same_new ha).at hS) (PP.same' (same_new ha)) A hne hz fun H' t ws k2 ht PW =>
    ⟨t, ws, rfl, ht, fun i σ' => σ'.m "out" = some (.ref a) ∧ σ'.m "greatest" = some (.int q.2 0) ∧ Same σ.H σ'.H ∧ Keep (fun x => x = a) H' σ'.H ∧ σ'.H a = some (.list (flat ((merge ps).take i))), ⟨pm_self, pm_ne (by rfl) (by rfl), (same_new ha).trans k2, Keep.refl, k2.at (upd_self _ _ _)⟩, fun i σ' h => ?_, ?_, ?_⟩))))))⟩)))
  · refine h.2.2.2.1.get ht fun z => ?_
    have := k2.at (upd_self σ.H a (.list []))
    rw [← z, ht] at this; cases this
  · intro F i v σ' hv ⟨m1, m2, k3, k4, hl⟩
    obtain ⟨T, p, rfl, hp, hT⟩ := PW.at hv
    have hTa : T ≠ a := fun z => by
      have := k2.at (upd_self σ.H a (.list []))
      rw [← z, hT] at this; cases this
    refine ⟨T, _, _, rfl, k4.get hT hTa, ?_⟩
    have hp1 := A1.each i p hp
    have hp2 := A1.bound hq' hp
    have hmin : min p.2 q.2 = p.2 := by omega
    have hfl : ((flat ((merge ps).take i)).length : Int) ≤ 50000 := by
      cases e : ((merge ps).take i).getLast? with
      | none => rw [List.getLast?_eq_none_iff.mp e]; simp [flat]
      | some r =>
        have := flat_le _ _ rfl (A1.take i) r e
        have h5 : r.2 ≤ q'.2 := by
          rw [List.getLast?_eq_getElem?, List.getElem?_take] at e
          split at e
          · exact A1.bound hq' e
          · cases e
        omega
    refine Exs.cons (Ex.expr ?_ E.quiet rfl)
    refine Ev.lmeth Gb PySem.F.slot_list_extend PySem.F.type_list_extend (Pe.ev (Pe.l E (by rfl) (pm_ne (by rfl) (pq_ne (by rfl) m1)) (by rfl)) ⟨a, _, rfl, hl, ?_⟩)
    refine As.cons (Ev.call Gb (Pe.ev (nm_range E Gb (by rfl)) ⟨.inr (.inl ⟨_, rfl⟩), ?_⟩))
    refine As.cons (Pe.ev (Pe.l E (by rfl) (pm_ne (by rfl) putM_self) (by rfl)) ?_)
    refine As.cons (Ev.binop (Ev.call Gb (Pe.ev (nm_min E Gb (by rfl)) ⟨.inl ⟨_, rfl⟩, ?_⟩)))
    refine As.cons (Pe.ev (Pe.l E (by rfl) pm_self (by rfl)) ?_)
    refine As.cons (Pe.ev (Pe.l E (by rfl) (pm_ne (by rfl) (pq_ne (by rfl) m2)) (by rfl)) ?_)
    refine As.nil (CallTo.min2 okb.hd ?_)
    refine Pe.ev Pe.int ⟨_, OpTo.add, As.nil (CallTo.range2 fun r hr => As.nil ?_)⟩
    rw [hmin]
    dsimp only at hr
    have hra : a ≠ r := fun z => by rw [z] at hl; rw [hl] at hr; cases hr
    refine CallTo.extend (n := (p.2 - p.1 + 1).toNat) okb.hd (by dsimp only; rw [upd_ne hra]; exact hl) (upd_self _ _ _) (by omega) (by omega) (by omega) (by omega) (by omega) ?_
    refine Exs.nil ⟨pm_ne (by rfl) (pq_ne (by rfl) m1), pm_ne (by rfl) (pq_ne (by rfl) m2), same_put (k3.trans (same_new hr)) ha, (k4.trans (Keep.new hr)).trans (Keep.upd rfl), ?_⟩
    dsimp only
    rw [upd_self, take_snoc hp, flat_app, flat_one]
  · intro σ' ⟨m1, m2, k3, k4, hl⟩
    rw [PW.len, List.take_length, fl] at hl
    exact Exs.cons (Ex.ret (Pe.ev (Pe.l E (by rfl) m1 (by rfl)) (k _ a k3 ha hl)))
theorem uids_of_spec (G : Gr P C.b) (ok : OkA C.A 5) {S : Addr} {vs : List Value} {ps : List (Int × Int)} {q : Int × Int} (hS : σ.H S = some (.tup vs)) (PP : IntPairs σ.H vs ps) (A : Asc ps) (hq : ps.getLast? = some q) (hz : ps.length ≤ 50) (hb : q.2 ≤ 50000)
    (k : ∀ H' a, Same σ.H H' → H' a = some (.list (flat ps)) → Φ (.ref a) ⟨σ.m, H'⟩) : CodeTo C (.ref 267) [.ref S] σ Φ := by
  refine (f_uids_of P).call G ok (bind1 (n1 := "some") (fun x => by kernel_rfl) (by kernel_rfl)) fun b L env Gb okb E => ?_
  have hne : ps ≠ [] := by rintro rfl; simp at hq
  obtain ⟨A1, fl, ml, mne, mlast⟩ := merge_ok _ ps rfl A
  obtain ⟨q', hq', e2⟩ := mlast q hq
  refine Exs.cons (Ex.assign rfl E.kind (E.kinds _ _ (by rfl)) E.loc (Ev.call Gb (Pe.ev (Pe.g E Gb (by rfl) (g_plain_set P) (by rfl)) ⟨k_plain_set P, As.cons (Pe.ev (Pe.l E (by rfl) (by rfl) (by rfl)) (As.cons (Pe.ev Pe.int (As.nil (CodeTo.call (plain_set_spec Gb (okb.le (by omega)) hS PP A hne hz fun H' t ws k2 ht PW => ?_))))))⟩)))
  obtain ⟨T, hT1, hT2, hpos⟩ := PW.lastAt hq'
  have hlen := PW.len
  refine Exs.cons (Ex.ifP (c := false) (Pt.to (Pt.cmp (call_lenT Gb E (by rfl) (Pe.l E (by rfl) pm_self (by rfl)) ht (by omega)) Pe.int CmpTo.eq (by rfl)) (by rw [beq_eq_false_iff_ne]; omega)) (fun q => absurd q (by decide)) fun _ => Exs.nil ?_)
  refine Exs.cons (Ex.ret (Ev.call Gb (Pe.ev (Pe.g E Gb (by rfl) (g_numbers_in P) (by rfl)) ⟨k_numbers_in P, ?_⟩)))
  refine As.cons (Pe.ev (Pe.l E (by rfl) pm_self (by rfl)) ?_)
  refine As.cons (Pe.ev (Pe.itemT (Pe.itemT (Pe.l E (by rfl) pm_self (by rfl)) (Ev.neg Pe.int) ht (by decide) (by decide) (j := ws.length - 1) ?_ hT1) Pe.int hT2 (by decide) (by decide) (by rfl) (by rfl)) ?_)
  rotate_left
  refine As.nil (CodeTo.call (numbers_in_spec Gb okb ht PW A1 hq' (by omega) (by omega) fun H'' a k3 ha hl => ?_))
  rotate_left
  · have := seqIndex_neg (k := -1) (n := ws.length) (by decide) (by omega)
    rw [this]; congr 1; omega
  · rw [fl] at hl
    exact k H'' a (k2.trans k3) hl
end
end Mine
end
section
set_option maxRecDepth 100000
set_option Elab.async false
set_option linter.unusedVariables false
namespace Mine
open PySem PySem.W PySem.Calls PyProof.Rows

/-- A state of the heap in which only the objects of S may have changed. -/
theorem Keep.put {S : Addr → Prop} {H H' : AH} {a : Addr} {o : AO} (k : Keep S H H') (h : H a = none ∨ S a) : Keep S H (Mine.upd H' a o) := fun x ob hx q => by
  have : x ≠ a := fun z => by
    subst z
    rcases h with h | h
    · rw [h] at q; cases q
    · exact hx h
  rw [upd_ne this]; exact k x ob hx q
theorem HeldAt.keep {S : Addr → Prop} {H H' : AH} {h : Addr} {r : Rw} (X : HeldAt H h r) (k : Keep S H H') (hT : ∀ x vs, H x = some (.tup vs) → ¬ S x) (hh : ¬ S h) : HeldAt H' h r := let ⟨fv, a, b⟩ := X; ⟨fv, a.mono fun x vs q => k.get q (hT _ _ q), k.get b hh⟩
theorem RowAt.keep {S : Addr → Prop} {H H' : AH} {h : Addr} {r : Rw} (X : RowAt H h r) (k : Keep S H H') (hT : ∀ x vs, H x = some (.tup vs) → ¬ S x) (hh : ¬ S h) : RowAt H' h r := let ⟨fv, a, b⟩ := X; ⟨fv, a.mono fun x vs q => k.get q (hT _ _ q), k.get b hh⟩
theorem Helds.keep {S : Addr → Prop} {H H' : AH} {hs : List Addr} {R : List Rw} (X : Helds H hs R) (k : Keep S H H') (hT : ∀ x vs, H x = some (.tup vs) → ¬ S x) (hh : ∀ h ∈ hs, ¬ S h) : Helds H' hs R := ⟨X.len, fun i h r a b => (X.at_ i h r a b).keep k hT (hh h (List.mem_of_getElem? a))⟩
theorem RowsA.keep {S : Addr → Prop} {H H' : AH} {hs : List Addr} {R : List Rw} (X : RowsA H hs R) (k : Keep S H H') (hT : ∀ x vs, H x = some (.tup vs) → ¬ S x) (hh : ∀ h ∈ hs, ¬ S h) : RowsA H' hs R := ⟨X.len, fun i h r a b => (X.at_ i h r a b).keep k hT (hh h (List.mem_of_getElem? a))⟩
theorem Helds.ne {H : AH} {hs : List Addr} {R : List Rw} (X : Helds H hs R) {h : Addr} (hm : h ∈ hs) : ∃ u f m, H h = some (heldO u f m) := by
  obtain ⟨i, hi, e⟩ := List.getElem_of_mem hm
  obtain ⟨r, _, fv, _, ho⟩ := X.both (i := i) (by rw [List.getElem?_eq_getElem hi, e])
  exact ⟨_, _, _, ho⟩
theorem RowsA.ne {H : AH} {hs : List Addr} {R : List Rw} (X : RowsA H hs R) {h : Addr} (hm : h ∈ hs) : ∃ vs, H h = some (.list vs) := by
  obtain ⟨i, hi, e⟩ := List.getElem_of_mem hm
  obtain ⟨r, _, fv, _, ho⟩ := X.both (i := i) (by rw [List.getElem?_eq_getElem hi, e])
  exact ⟨_, ho⟩
/-- unknown rows -/
def Blank (r : Rw) : Prop := r.known = 0 ∧ r.fl = none ∧ r.ms = 0
theorem Helds.app {H : AH} {hs hs' : List Addr} {R R' : List Rw} (X : Helds H hs R) (Y : Helds H hs' R') : Helds H (hs ++ hs') (R ++ R') := by
  refine ⟨by rw [List.length_append, List.length_append, X.len, Y.len], fun i h r a b => ?_⟩
  rcases Nat.lt_or_ge i hs.length with q | q
  · rw [List.getElem?_append_left q] at a
    rw [List.getElem?_append_left (X.len ▸ q)] at b
    exact X.at_ i h r a b
  · rw [List.getElem?_append_right q] at a
    rw [List.getElem?_append_right (X.len ▸ q), ← X.len] at b
    exact Y.at_ _ h r a b
section
variable {P : Params} {C : Cx} {σ : St} {Φ : Value → St → Prop} {c : Addr} {d : CopyD} {hs : List Addr} {R : List Rw}
theorem take_exists_spec (G : Gr P C.b) (ok : OkA C.A 4) (X : CopyIs σ.H c d hs R) {N : List Rw} (hN : ∀ r ∈ N, Blank r) (hz : R.length + N.length ≤ 1000)
    (k : ∀ H' r' hs', Keep (fun x => x = c) σ.H H' → σ.H r' = none → (∀ h ∈ hs', σ.H h = none) → hs'.Nodup → CopyIs H' c { d with rows := r' } (hs ++ hs') (R ++ N) → Φ .none ⟨σ.m, H'⟩) :
    CodeTo C (.ref 227) [.ref c, .int (R.length + N.length : Nat) 0] σ Φ := by
  refine (f_take_exists P).call G ok (bind2 (n1 := "copy") (n2 := "count") (fun x y => by kernel_rfl) (by kernel_rfl) (by kernel_rfl)) fun b L env Gb okb E => ?_
  have hlen := X.lenR
  refine Exs.cons (Ex.ifP (c := false) (Pt.and2 (x := false) (y := false) (Pt.ev (Pe.attr Gb (Pe.l E (by rfl) (by rfl) (by rfl)) X.obj (get_218_is_opening P) (by rfl) (by rfl))) fun q => absurd q (by decide)) (fun q => absurd q (by decide)) fun _ => Exs.nil ?_)
  refine Exs.cons (Ex.ifP (c := false) (Pt.to (Pt.cmp (Pe.l E (by rfl) (by rfl) (by rfl)) (call_len Gb E (by rfl) (rows_pe Gb (Pe.l E (by rfl) (by rfl) (by rfl)) X) X.rows (by omega)) CmpTo.lt (by rfl)) (by simp; omega)) (fun q => absurd q (by decide)) fun _ => Exs.nil ?_)
  refine Exs.cons (Ex.setattr Gb rfl (Ev.addl (Pe.ev (rows_pe Gb (Pe.l E (by rfl) (by rfl) (by rfl)) X) ?_)))
  refine Ev.compE (C := C.call env b L) Gb okb.hd [("Held", .globalImplicit)] E (cl := []) (Nat.zero_le _) rfl (by decide) rfl (by decide) (by rfl) (by rfl) ?_
  refine Ev.call Gb (Pe.ev (nm_range E Gb (by rfl)) ⟨.inr (.inl ⟨_, rfl⟩), ?_⟩)
  refine As.cons (Pe.ev (Pe.binop (Pe.l E (by rfl) (by rfl) (by rfl)) (call_len Gb E (by rfl) (rows_pe Gb (Pe.l E (by rfl) (by rfl) (by rfl)) X) X.rows (by omega)) OpTo.sub) ?_)
  have hn : ((R.length + N.length : Nat) : Int) - ((refs hs).length : Int) = (N.length : Nat) := by rw [hlen]; omega
  rw [hn]
  refine As.nil (CallTo.range1 fun r hr => ?_)
  refine ⟨r, rvals 0 N.length, _, _, rfl, IterOver.range (C := C.call env b L) okb.hd 0 N.length, trivial, MakesIter.range (upd_self _ _ _) (by omega) (by omega), by rw [rvals_len]; exact len_k (by omega),
    fun i acc σ' => Same σ.H σ'.H ∧ ∃ hs', acc = refs hs' ∧ hs'.length = i ∧ hs'.Nodup ∧ (∀ h ∈ hs', σ.H h = none) ∧ ∀ h ∈ hs', σ'.H h = some (heldO 0 .none 0), ⟨same_new hr, [], rfl, rfl, .nil, by simp, by simp⟩, fun _ _ _ _ => trivial, fun b' L' F i v acc σ' env' Gb' Ec hv ⟨h1, hs', e1, e2, e3, e4, e5⟩ => ?_, fun acc σ' ⟨h1, hs', e1, e2, e3, e4, e5⟩ n hn => ?_⟩
  · refine CompElt.one (Ev.call Gb' (Pe.ev (Pe.g Ec Gb' (by rfl) (g_Held P) (by rfl)) ⟨k_Held P, As.nil (CodeTo.call (held_new Gb' (okb.le (by omega)) fun h hh => ?_))⟩))
    have hnew : σ.H h = none := h1.none hh
    refine ⟨h1.trans (same_new hh), hs' ++ [h], by rw [e1]; simp [refs], by simp [e2], ?_, ?_, ?_⟩
    · rw [List.nodup_append]
      refine ⟨e3, by simp, fun x hx y hy => ?_⟩
      simp at hy
      subst hy
      intro z
      subst z
      have := e5 x hx
      dsimp only at hh
      rw [hh] at this; cases this
    · intro x hx
      rcases List.mem_append.mp hx with hx | hx
      · exact e4 x hx
      · simp at hx; subst hx; exact hnew
    · intro x hx
      rcases List.mem_append.mp hx with hx | hx
      · have := e5 x hx
        have hne : x ≠ h := fun z => by rw [z] at this; dsimp only at hh; rw [hh] at this; cases this
        dsimp only; rw [upd_ne hne]; exact this
      · simp at hx; subst hx; exact upd_self _ _ _
  · rw [rvals_len] at e2
    have hrow : upd σ'.H n (.list acc) d.rows = some (.list (refs hs)) := (h1.trans (same_new hn)).at X.rows
    refine ⟨d.rows, n, refs hs, acc, rfl, rfl, hrow, upd_self _ _ _, len_k (by rw [e1, refs_len, refs_len]; have := X.helds.len; omega), fun l hl => ?_⟩
    have k1 : Same σ.H (upd (upd σ'.H n (.list acc)) l (.list (refs hs ++ acc))) := (h1.trans (same_new hn)).trans (same_new hl)
    refine Pe.ev (Pe.l E (by rfl) (by rfl) (by rfl)) ⟨c, 218, _, rfl, k1.at X.obj, set_218_rows P, le900 (by rfl), ?_⟩
    refine Exs.nil (k _ l hs' ((Same.weak k1).put (.inr rfl)) (Same.none (h1.trans (same_new hn)) hl) e4 e3 ?_)
    have hcl : l ≠ c := fun z => by
      have := (h1.trans (same_new (o := .list acc) hn)).at X.obj
      rw [← z] at this; dsimp only at hl; rw [hl] at this; cases this
    have hT : ∀ x vs, σ.H x = some (.tup vs) → ¬ x = c := fun x vs q z => by rw [z, X.obj] at q; cases q
    have kk : Keep (fun x => x = c) σ.H (upd (upd (upd σ'.H n (.list acc)) l (.list (refs hs ++ acc))) c (copyO { d with rows := l })) := (Same.weak k1).put (.inr rfl)
    refine ⟨upd_self _ _ _, ?_, kk.get X.kept (fun z => by have := X.kept; rw [z, X.obj] at this; cases this), ?_, by rw [List.length_append]; omega⟩
    · dsimp only; rw [upd_ne hcl, upd_self, e1]; simp [refs]
    · refine (X.helds.keep kk hT fun h hm z => ?_).app ⟨e2, fun i h r a b => ?_⟩
      · obtain ⟨u, f, m, ho⟩ := X.helds.ne hm
        rw [z, X.obj] at ho; cases ho
      · obtain ⟨b1, b2, b3⟩ := hN r (List.mem_of_getElem? b)
        have hm := List.mem_of_getElem? a
        have ho := e5 h hm
        have n1 : h ≠ n := fun z => by rw [z] at ho; rw [hn] at ho; cases ho
        have ho2 : upd σ'.H n (.list acc) h = some (heldO 0 .none 0) := by rw [upd_ne n1]; exact ho
        have n2 : h ≠ l := fun z => by rw [z] at ho2; dsimp only at hl; rw [hl] at ho2; cases ho2
        have n3 : h ≠ c := fun z => by have := e4 h hm; rw [z, X.obj] at this; cases this
        refine ⟨.none, by rw [b2]; rfl, ?_⟩
        rw [b1, b3]
        rw [upd_ne n3, upd_ne n2]; exact ho2
end
end Mine
end
section
set_option maxRecDepth 100000
set_option Elab.async false
set_option linter.unusedVariables false
namespace Mine
open PySem PySem.W PySem.Calls PyProof.Rows

section
variable {P : Params} {C : Cx} {σ : St} {Φ : Value → St → Prop} {c : Addr} {d : CopyD} {hs : List Addr} {R : List Rw}
/-- the uid of a row, read -/
theorem row_uid {env : Env} {i : Nat} {r : Rw} {e : Expr} {ix : Expr} {ap sp up : Pos} {t : Tok} {k : Int} (G : Gr P C.b) (he : Pe C env e σ (.ref c)) (hi : Pe C env ix σ (.int k t)) (X : CopyIs σ.H c d hs R) (hk : k = i) (hr : R[i]? = some r)
    (h1 : eval (.Attribute e "rows" ap) env = (do
      let o ← eval e env
      standAt ap.atName
      let r ← holding [o] (getAttr o "rows" true)
      letTemporaryGo e o r
      pure r) := by with_unfolding_all rfl)
    (h2 : ∀ o i, subscripted ix false o i = operate [o, i] (getItem o i) := by intro _ _; rfl) 
    (h3 : eval (.Attribute (.Subscript (.Attribute e "rows" ap) ix sp) "uid" up) env = (do
      let o ← eval (.Subscript (.Attribute e "rows" ap) ix sp) env
      standAt up.atName
      let r ← holding [o] (getAttr o "uid" true)
      letTemporaryGo (.Subscript (.Attribute e "rows" ap) ix sp) o r
      pure r) := by with_unfolding_all rfl) : Pe C env (.Attribute (.Subscript (.Attribute e "rows" ap) ix sp) "uid" up) σ (.int r.known 0) := by
  obtain ⟨h, hh, fv, hf, ho⟩ := X.helds.both' hr
  have hil := (List.getElem?_eq_some_iff.mp hr).1
  have hz := X.small
  refine Pe.attr G (Pe.item (rows_pe G he X h1) hi X.rows (by omega) (by omega) (v := .ref h) ?_ h2) ho (get_168_uid P) (by rfl) (by rfl) h3
  have : k.toNat = i := by omega
  rw [this]; exact refs_at hh
theorem check_uid_spec (G : Gr P C.b) (ok : OkA C.A 2) (X : CopyIs σ.H c d hs R) {i : Nat} {uid : Int} (hi : i < R.length)
    (hq : ∀ (j : Nat) r, R[j]? = some r → r.known = 0 ∨ (0 < r.known ∧ (j < i → r.known < uid) ∧ (j = i → r.known = uid) ∧ (i < j → uid < r.known)))
    (k : ∀ H', Same σ.H H' → Φ .none ⟨σ.m, H'⟩) : CodeTo C (.ref 234) [.ref c, .int (i + 1) 0, .int uid 0] σ Φ := by
  refine (f_check_uid P).call G ok (bind3 (n1 := "copy") (n2 := "number") (n3 := "uid") (fun x y z => by kernel_rfl) (by kernel_rfl) (by kernel_rfl) (by kernel_rfl)) fun b L env Gb okb E => ?_
  have hz := X.small
  refine Exs.cons (Ex.forR okb.hd E (by rfl) ?_)
  refine Ev.call Gb (Pe.ev (nm_range E Gb (by rfl)) ⟨.inr (.inl ⟨_, rfl⟩), ?_⟩)
  refine As.cons (Pe.ev (call_len Gb E (by rfl) (rows_pe Gb (Pe.l E (by rfl) (by rfl) (by rfl)) X) X.rows (by rw [X.lenR]; omega)) ?_)
  refine As.nil (CallTo.range1 fun r hr => ?_)
  refine ⟨r, 0, (refs hs).length, rfl, upd_self _ _ _, by omega, by omega, by rw [X.lenR]; omega, fun j σ' => Same σ.H σ'.H ∧ σ'.m "copy" = some (.ref c) ∧ σ'.m "number" = some (.int (i + 1) 0) ∧ σ'.m "uid" = some (.int uid 0), ⟨same_new hr, by rfl, by rfl, by rfl⟩, ?_, ?_⟩
  · intro F j σ' hj ⟨k1, m1, m2, m3⟩
    rw [X.lenR] at hj
    have hr : R[j]? = some R[j] := by simp [hj]
    generalize R[j] = r at hr
    have X' := X.same k1
    have hk := hq j r hr
    refine Exs.cons (Ex.assign rfl E.kind (E.kinds _ _ (by rfl)) E.loc (Pe.ev (row_uid Gb (Pe.l E (by rfl) (pm_ne (by rfl) m1) (by rfl)) (Pe.l E (by rfl) pm_self (by rfl)) X' (Int.zero_add _) hr) ?_))
    refine Exs.cons (Ex.ifP (c := false) ?_ (fun q => absurd q (by decide)) fun _ => Exs.nil ?_)
    · refine Pt.to (Pt.and3 (Pt.cmp (Pe.l E (by rfl) pm_self (by rfl)) Pe.int CmpTo.gt (by rfl)) (fun _ => Pt.cmp (Pe.l E (by rfl) (pm_ne (by rfl) pm_self) (by rfl)) (Pe.binop (Pe.l E (by rfl) (pm_ne (by rfl) (pm_ne (by rfl) m2)) (by rfl)) Pe.int OpTo.sub) CmpTo.eq (by rfl))
        fun _ _ => Pt.cmp (Pe.l E (by rfl) pm_self (by rfl)) (Pe.l E (by rfl) (pm_ne (by rfl) (pm_ne (by rfl) m3)) (by rfl)) CmpTo.ne (by rfl)) ?_
      rcases hk with hk | ⟨h0, h1, h2, h3⟩
      · simp [hk]
      · rw [Bool.and_assoc, Bool.and_eq_false_iff]
        refine .inr ?_
        rw [Bool.and_eq_false_iff]
        by_cases e : j = i
        · exact .inr (by simp [h2 e])
        · exact .inl (by rw [beq_eq_false_iff_ne]; omega)
    refine Exs.cons (Ex.ifP (c := false) ?_ (fun q => absurd q (by decide)) fun _ => Exs.nil (Exs.nil ⟨k1, pm_ne (by rfl) (pm_ne (by rfl) m1), pm_ne (by rfl) (pm_ne (by rfl) m2), pm_ne (by rfl) (pm_ne (by rfl) m3)⟩))
    refine Pt.to (Pt.or2 (x := false) (y := false) (Pt.to (Pt.and3 (Pt.cmp (Pe.l E (by rfl) pm_self (by rfl)) Pe.int CmpTo.gt (by rfl)) (fun _ => Pt.cmp (Pe.l E (by rfl) (pm_ne (by rfl) pm_self) (by rfl)) (Pe.binop (Pe.l E (by rfl) (pm_ne (by rfl) (pm_ne (by rfl) m2)) (by rfl)) Pe.int OpTo.sub) CmpTo.lt (by rfl))
        fun _ _ => Pt.cmp (Pe.l E (by rfl) pm_self (by rfl)) (Pe.l E (by rfl) (pm_ne (by rfl) (pm_ne (by rfl) m3)) (by rfl)) CmpTo.ge (by rfl)) ?_)
      (fun _ => Pt.to (Pt.and2 (Pt.chain Pe.int (Pe.l E (by rfl) pm_self (by rfl)) CmpTo.lt (fun _ => ⟨Pe.l E (by rfl) (pm_ne (by rfl) (pm_ne (by rfl) m3)) (by rfl), CmpTo.le⟩) (by rfl))
        fun _ => Pt.cmp (Pe.l E (by rfl) (pm_ne (by rfl) pm_self) (by rfl)) (Pe.binop (Pe.l E (by rfl) (pm_ne (by rfl) (pm_ne (by rfl) m2)) (by rfl)) Pe.int OpTo.sub) CmpTo.gt (by rfl)) ?_)) rfl
    · rcases hk with hk | ⟨h0, h1, h2, h3⟩
      · simp [hk]
      · rw [Bool.and_assoc, Bool.and_eq_false_iff]
        refine .inr ?_
        rw [Bool.and_eq_false_iff]
        by_cases e : j < i
        · exact .inr (by have := h1 e; simp; omega)
        · exact .inl (by simp; omega)
    · rcases hk with hk | ⟨h0, h1, h2, h3⟩
      · simp [hk]
      · rw [Bool.and_eq_false_iff]
        by_cases e : i < j
        · exact .inl (by have := h3 e; simp; omega)
        · exact .inr (by simp; omega)
  · intro σ' ⟨k1, m1, m2, m3⟩
    exact Exs.nil (k _ k1)
end
end Mine
end
section
set_option maxRecDepth 100000
set_option Elab.async false
set_option linter.unusedVariables false
namespace Mine
open PySem PySem.W PySem.Calls PyProof.Rows

def Inj (l : List Addr) : Prop := ∀ (i j : Nat) a, l[i]? = some a → l[j]? = some a → i = j
theorem Inj.ofNodup {l : List Addr} (h : l.Nodup) : Inj l := fun i j a h1 h2 => by
  obtain ⟨l1, e1⟩ := List.getElem?_eq_some_iff.mp h1
  obtain ⟨l2, e2⟩ := List.getElem?_eq_some_iff.mp h2
  rcases Nat.lt_trichotomy i j with q | q | q
  · exact absurd (e1.trans e2.symm) (List.pairwise_iff_getElem.mp h i j l1 l2 q)
  · exact q
  · exact absurd (e2.trans e1.symm) (List.pairwise_iff_getElem.mp h j i l2 l1 q)
theorem Inj.app {a b : List Addr} (A : Inj a) (B : Inj b) (h : ∀ x ∈ a, x ∉ b) : Inj (a ++ b) := fun i j x h1 h2 => by
  rcases Nat.lt_or_ge i a.length with q | q <;> rcases Nat.lt_or_ge j a.length with q' | q'
  · rw [List.getElem?_append_left q] at h1; rw [List.getElem?_append_left q'] at h2; exact A i j x h1 h2
  · rw [List.getElem?_append_left q] at h1; rw [List.getElem?_append_right q'] at h2; exact absurd (List.mem_of_getElem? h2) (h x (List.mem_of_getElem? h1))
  · rw [List.getElem?_append_right q] at h1; rw [List.getElem?_append_left q'] at h2; exact absurd (List.mem_of_getElem? h1) (h x (List.mem_of_getElem? h2))
  · rw [List.getElem?_append_right q] at h1; rw [List.getElem?_append_right q'] at h2
    have := B _ _ x h1 h2
    omega
theorem Inj.erase {a : List Addr} (A : Inj a) (k : Nat) : Inj (a.eraseIdx k) := fun i j x h1 h2 => by
  rw [List.getElem?_eraseIdx] at h1 h2
  split at h1 <;> split at h2
  · exact A i j x h1 h2
  · have := A _ _ x h1 h2; omega
  · have := A _ _ x h1 h2; omega
  · have := A _ _ x h1 h2; omega
theorem Inj.set {a : List Addr} (A : Inj a) {k : Nat} {x : Addr} (h : x ∉ a) : Inj (a.set k x) := fun i j y h1 h2 => by
  rw [List.getElem?_set] at h1 h2
  split at h1 <;> split at h2
  · omega
  · split at h1
    · cases h1; exact absurd (List.mem_of_getElem? h2) h
    · cases h1
  · split at h2
    · cases h2; exact absurd (List.mem_of_getElem? h1) h
    · cases h2
  · exact A i j y h1 h2
theorem Inj.one (a : Addr) : Inj [a] := Inj.ofNodup (by simp)
theorem mem_set {α : Type} {l : List α} {k : Nat} {x y : α} (h : y ∈ l.set k x) : y ∈ l ∨ y = x := List.mem_or_eq_of_mem_set h

/-! Runs of the unknown -/
structure IsRun (R : List Rw) (lo hi : Nat) : Prop where
  le : lo ≤ hi
  lt : hi < R.length
  zero : ∀ (j : Nat) r, lo ≤ j → j ≤ hi → R[j]? = some r → r.known = 0
  left : ∀ r, 0 < lo → R[lo - 1]? = some r → r.known ≠ 0
  right : ∀ r, R[hi + 1]? = some r → r.known ≠ 0
def blankRw (r : Rw) : Rw := { r with fl := none, ms := 0 }
def blankR (R : List Rw) (lo n : Nat) : List Rw := R.mapIdx fun j r => if lo ≤ j ∧ j < n then blankRw r else r
theorem blankR_len {R : List Rw} {lo n : Nat} : (blankR R lo n).length = R.length := by simp [blankR]
theorem blankR_get {R : List Rw} {lo n i : Nat} : (blankR R lo n)[i]? = (R[i]?).map fun r => if lo ≤ i ∧ i < n then blankRw r else r := by simp [blankR]
theorem blankR_known {R : List Rw} {lo n i : Nat} {r : Rw} (h : (blankR R lo n)[i]? = some r) : ∃ r', R[i]? = some r' ∧ r'.known = r.known ∧ r'.hid = r.hid := by
  rw [blankR_get] at h
  obtain ⟨r', h1, h2⟩ := Option.map_eq_some_iff.mp h
  refine ⟨r', h1, ?_⟩
  split at h2 <;> subst h2 <;> exact ⟨rfl, rfl⟩
theorem refs_set {hs : List Addr} {i : Nat} {h : Addr} : refs (hs.set i h) = (refs hs).set i (.ref h) := by simp [refs, List.map_set]
section
variable {P : Params} {C : Cx} {σ : St} {Φ : Value → St → Prop} {c : Addr} {d : CopyD} {hs : List Addr} {R : List Rw}
theorem blur_spec (G : Gr P C.b) (ok : OkA C.A 3) (X : CopyIs σ.H c d hs R) (I : Inj hs) {lo hi p : Nat} (N : IsRun R lo hi) (h1 : lo ≤ p) (h2 : p ≤ hi)
    (k : ∀ H' hs', Keep (fun x => x = d.rows) σ.H H' → Inj hs' → (∀ h ∈ hs', h ∈ hs ∨ σ.H h = none) → CopyIs H' c d hs' (blankR R lo (hi + 1)) → Φ .none ⟨σ.m, H'⟩) :
    CodeTo C (.ref 253) [.ref c, .int p 0] σ Φ := by
  refine (f_blur P).call G ok (bind2 (n1 := "copy") (n2 := "place") (fun x y => by kernel_rfl) (by kernel_rfl) (by kernel_rfl)) fun b L env Gb okb E => ?_
  have hz := X.small
  have hlt := N.lt
  refine Exs.cons (Ex.assign rfl E.kind (E.kinds _ _ (by rfl)) E.loc (Pe.ev (Pe.l E (by rfl) (by rfl) (by rfl)) ?_))
  refine Exs.cons (Ex.while_ (fun n σ' => ∃ l : Nat, lo ≤ l ∧ l ≤ p ∧ n = l - lo ∧ σ'.m "low" = some (.int l 0) ∧ σ'.m "copy" = some (.ref c) ∧ σ'.H = σ.H) (p - lo) ⟨p, h1, Nat.le_refl _, rfl, pm_self, pm_ne (by rfl) (by rfl), rfl⟩ ?_)
  rintro n ⟨m', H'⟩ ⟨l, q1, q2, rfl, m1, m2, eH⟩
  dsimp only at eH
  subst eH
  by_cases hl : l = lo
  · -- the left end
    subst hl
    refine Pt.it (x := false) ?_ ?_
    · by_cases h0 : l = 0
      · refine Pt.and2 (x := false) (y := false) (Pt.to (Pt.cmp (Pe.l E (by rfl) m1 (by rfl)) Pe.int CmpTo.gt (by rfl)) (by simp; omega)) fun q => absurd q (by decide)
      · have hr : R[l - 1]? = some R[l - 1] := by simp [show l - 1 < R.length by omega]
        have hne := N.left _ (by omega) hr
        refine Pt.to (Pt.and2 (x := true) (y := false) (Pt.to (Pt.cmp (Pe.l E (by rfl) m1 (by rfl)) Pe.int CmpTo.gt (by rfl)) (by simp; omega)) fun _ => ?_) rfl
        exact Pt.to (Pt.cmp (row_uid Gb (Pe.l E (by rfl) m2 (by rfl)) (Pe.binop (Pe.l E (by rfl) m1 (by rfl)) Pe.int OpTo.sub) X (i := l - 1) (by omega) hr) Pe.int CmpTo.eq (by rfl)) (by rw [beq_eq_false_iff_ne]; exact hne)
    rw [if_neg (by decide)]
    -- to the right
    refine Exs.cons (Ex.while_ (fun n σ' => ∃ (t : Nat) (hs1 : List Addr), l ≤ t ∧ t ≤ hi + 1 ∧ n = hi + 1 - t ∧ σ'.m "low" = some (.int t 0) ∧ σ'.m "copy" = some (.ref c) ∧ Keep (fun x => x = d.rows) σ.H σ'.H ∧ Inj hs1 ∧ (∀ h ∈ hs1, h ∈ hs ∨ σ.H h = none) ∧ CopyIs σ'.H c d hs1 (blankR R l t)) (hi + 1 - l)
      ⟨l, hs, Nat.le_refl _, by omega, rfl, m1, m2, Keep.refl, I, fun h hh => .inl hh, ?_⟩ ?_)
    · have : blankR R l l = R := by
        apply List.ext_getElem?
        intro i
        rw [blankR_get]
        cases R[i]? with
        | none => rfl
        | some r => rw [Option.map_some, if_neg (by omega)]
      rw [this]; exact X
    · rintro n ⟨m'', H''⟩ ⟨t, hs1, q3, q4, rfl, m3, m4, k1, I1, J1, X1⟩
      dsimp only at k1 X1 m3 m4
      have hlen1 := X1.lenR
      rw [blankR_len] at hlen1
      by_cases ht : t = hi + 1
      · refine Pt.it (x := false) ?_ ?_
        · by_cases he : t = R.length
          · refine Pt.and2 (x := false) (y := false) (Pt.to (Pt.cmp (Pe.l E (by rfl) m3 (by rfl)) (call_len Gb E (by rfl) (rows_pe Gb (Pe.l E (by rfl) m4 (by rfl)) X1) X1.rows (by omega)) CmpTo.lt (by rfl)) (by simp; omega)) fun q => absurd q (by decide)
          · obtain ⟨rt, hr⟩ : ∃ rt, (blankR R l t)[t]? = some rt := ⟨_, List.getElem?_eq_getElem (by rw [blankR_len]; omega)⟩
            obtain ⟨r', e1, e2, _⟩ := blankR_known hr
            have hne := N.right r' (by rw [← ht]; exact e1)
            refine Pt.to (Pt.and2 (x := true) (y := false) (Pt.to (Pt.cmp (Pe.l E (by rfl) m3 (by rfl)) (call_len Gb E (by rfl) (rows_pe Gb (Pe.l E (by rfl) m4 (by rfl)) X1) X1.rows (by omega)) CmpTo.lt (by rfl)) (by simp; omega)) fun _ => ?_) rfl
            exact Pt.to (Pt.cmp (row_uid Gb (Pe.l E (by rfl) m4 (by rfl)) (Pe.l E (by rfl) m3 (by rfl)) X1 rfl hr) Pe.int CmpTo.eq (by rfl)) (by rw [beq_eq_false_iff_ne, ← e2]; exact hne)
        · rw [if_neg (by decide)]
          rw [ht] at X1
          exact Exs.nil (k _ hs1 k1 I1 J1 X1)
      · have htR : t < R.length := by omega
        obtain ⟨rt, hr⟩ : ∃ rt, (blankR R l t)[t]? = some rt := ⟨_, List.getElem?_eq_getElem (by rw [blankR_len]; omega)⟩
        obtain ⟨r', e1, e2, _⟩ := blankR_known hr
        have h0 := N.zero t r' q3 (by omega) e1
        refine Pt.it (x := true) (Pt.to (Pt.and2 (x := true) (y := true) (Pt.to (Pt.cmp (Pe.l E (by rfl) m3 (by rfl)) (call_len Gb E (by rfl) (rows_pe Gb (Pe.l E (by rfl) m4 (by rfl)) X1) X1.rows (by omega)) CmpTo.lt (by rfl)) (by simp; omega)) fun _ =>
          Pt.to (Pt.cmp (row_uid Gb (Pe.l E (by rfl) m4 (by rfl)) (Pe.l E (by rfl) m3 (by rfl)) X1 rfl hr) Pe.int CmpTo.eq (by rfl)) (by rw [beq_iff_eq, ← e2]; exact h0)) rfl) ?_
        rw [if_pos rfl]
        refine Exs.cons (Ex.setitem rfl (Ev.call Gb (Pe.ev (Pe.g E Gb (by rfl) (g_Held P) (by rfl)) ⟨k_Held P, As.nil (CodeTo.call (held_new Gb okb fun h hh => ?_))⟩)))
        dsimp only at hh
        have kh : Same H'' (upd H'' h (heldO 0 .none 0)) := same_new hh
        have X2 := X1.same kh
        refine Pe.ev (rows_pe Gb (Pe.l E (by rfl) m4 (by rfl)) X2) (Pe.ev (Pe.l E (by rfl) m3 (by rfl)) ⟨d.rows, refs hs1, t, 0, rfl, rfl, X2.rows, by omega, by rw [hlen1]; omega, by omega, ?_⟩)
        have hhs : h ∉ hs1 := fun z => by
          obtain ⟨u, f, m, ho⟩ := X1.helds.ne z
          rw [hh] at ho; cases ho
        have hfresh : σ.H h = none := by
          cases q : σ.H h with
          | none => rfl
          | some o =>
            by_cases z : h = d.rows
            · rw [z, X1.rows] at hh; cases hh
            · rw [k1.get q z] at hh; cases hh
        refine Exs.cons (Ex.aug E.kind (E.kinds _ _ (by rfl)) E.loc m3 Pe.int IOpTo.add (Exs.nil ⟨hi + 1 - (t + 1), by omega, t + 1, hs1.set t h, by omega, by omega, rfl, ?_, ?_, ?_, I1.set hhs, fun x hx => ?_, ?_⟩))
        · exact pm_self
        · exact pm_ne (by rfl) m4
        · exact (k1.trans (Keep.new hh)).trans (Keep.upd rfl)
        · rcases mem_set hx with hx | rfl
          · exact J1 x hx
          · exact .inr hfresh
        · have hcr : c ≠ d.rows := fun z => by have := X1.rows; rw [← z, X1.obj] at this; cases this
          have hkr : d.kept ≠ d.rows := fun z => by have := X1.rows; rw [← z, X1.kept] at this; cases this
          refine ⟨?_, ?_, ?_, ⟨by rw [List.length_set, blankR_len]; have := X1.helds.len; rw [blankR_len] at this; exact this, fun j g r a1 a2 => ?_⟩, by rw [blankR_len]; exact hz⟩
          · show upd _ d.rows _ c = _
            rw [upd_ne hcr]; exact X2.obj
          · show upd _ d.rows _ d.rows = _
            rw [upd_self, refs_set]; rfl
          · show upd _ d.rows _ d.kept = _
            rw [upd_ne hkr]; exact X2.kept
          · have hT : ∀ {H0 : AH} {o : AO} {vs}, H0 d.rows = some (.list vs) → Tups H0 (upd H0 d.rows o) := fun {H0 o vs} e x ws q => by
              rw [upd_ne (fun z => by rw [z, e] at q; cases q)]; exact q
            rw [List.getElem?_set] at a1
            by_cases hjt : t = j
            · subst hjt
              rw [if_pos rfl, if_pos (by have := X1.helds.len; rw [blankR_len] at this; omega)] at a1
              cases a1
              rw [blankR_get, e1, Option.map_some, if_pos (by omega)] at a2
              cases a2
              refine ⟨.none, rfl, ?_⟩
              show upd _ d.rows _ h = some (heldO r'.known .none 0)
              have : h ≠ d.rows := fun z => by rw [z, X1.rows] at hh; cases hh
              rw [upd_ne this]
              show upd _ h _ h = _
              rw [upd_self, h0]
            · rw [if_neg hjt] at a1
              have a3 : (blankR R l t)[j]? = some r := by
                rw [blankR_get] at a2 ⊢
                rw [← a2]
                congr 1
                funext r0
                by_cases hc1 : l ≤ j ∧ j < t
                · rw [if_pos hc1, if_pos (by omega)]
                · rw [if_neg hc1, if_neg (by omega)]
              obtain ⟨fv, f1, f2⟩ := X2.helds.at_ j g r a1 a3
              refine ⟨fv, f1.mono (hT X2.rows), ?_⟩
              show upd _ d.rows _ g = _
              rw [upd_ne (fun z => by rw [z, X2.rows] at f2; cases f2)]; exact f2
  · have hr : R[l - 1]? = some R[l - 1] := by simp [show l - 1 < R.length by omega]
    have h0 := N.zero (l - 1) _ (by omega) (by omega) hr
    refine Pt.it (x := true) (Pt.to (Pt.and2 (x := true) (y := true) (Pt.to (Pt.cmp (Pe.l E (by rfl) m1 (by rfl)) Pe.int CmpTo.gt (by rfl)) (by simp; omega)) fun _ =>
      Pt.to (Pt.cmp (row_uid Gb (Pe.l E (by rfl) m2 (by rfl)) (Pe.binop (Pe.l E (by rfl) m1 (by rfl)) Pe.int OpTo.sub) X (i := l - 1) (by omega) hr) Pe.int CmpTo.eq (by rfl)) (by rw [beq_iff_eq]; exact h0)) rfl) ?_
    rw [if_pos rfl]
    refine Exs.cons (Ex.aug E.kind (E.kinds _ _ (by rfl)) E.loc m1 Pe.int IOpTo.sub (Exs.nil ⟨l - 1 - lo, by omega, l - 1, by omega, by omega, rfl, ?_, pm_ne (by rfl) m2, rfl⟩))
    have e : (l : Int) - 1 = ((l - 1 : Nat) : Int) := by omega
    rw [e]
    exact pm_self
end
end Mine
end
section
set_option maxRecDepth 100000
set_option Elab.async false
set_option linter.unusedVariables false
namespace Mine
open PySem PySem.W PySem.Calls PyProof.Rows

section
variable {C : Cx} {env : Env} {σ : St} {Φ : Value → St → Prop} {value up : Expr} {pos sp : Pos}
theorem Ev.upto {l : Addr} {vs : List Value} {k : Int} {t : Tok} {n : Nat} (hv : Pe C env value σ (.ref l)) (hl : σ.H l = some (.list vs)) (hu : Pe C env up σ (.int k t)) (hk : k = n) (hz : vs.length ≤ 100000) (h : ∀ a, σ.H a = none → Φ (.ref a) ⟨σ.m, upd σ.H a (.list (vs.take n))⟩)
    (hs : ∀ o i, ∃ ops, subscripted (.Slice none (some up) none sp) false o i = operate ops (getItem o i) := by intro _ _; exact ⟨_, rfl⟩) : Ev C env (.Subscript value (.Slice none (some up) none sp) pos) σ Φ := by
  refine Ev.slice (lo := none) (hi := some k) (st := none) (Pe.ev hv ⟨l, vs, rfl, hl, Pp.none, Pp.some hu, Pp.none, by simp, len_k hz, fun a ha => ?_⟩) hs
  rw [hk, slicePick_upto']
  exact h a ha
theorem Ev.from_ {l : Addr} {vs : List Value} {k : Int} {t : Tok} {n : Nat} (hv : Pe C env value σ (.ref l)) (hl : σ.H l = some (.list vs)) (hu : Pe C env up σ (.int k t)) (hk : k = n) (hz : vs.length ≤ 100000) (h : ∀ a, σ.H a = none → Φ (.ref a) ⟨σ.m, upd σ.H a (.list (vs.drop n))⟩)
    (hs : ∀ o i, ∃ ops, subscripted (.Slice (some up) none none sp) false o i = operate ops (getItem o i) := by intro _ _; exact ⟨_, rfl⟩) : Ev C env (.Subscript value (.Slice (some up) none none sp) pos) σ Φ := by
  refine Ev.slice (lo := some k) (hi := none) (st := none) (Pe.ev hv ⟨l, vs, rfl, hl, Pp.some hu, Pp.none, Pp.none, by simp, len_k hz, fun a ha => ?_⟩) hs
  rw [hk, slicePick_from']
  exact h a ha
end

structure Good (R : List Rw) (top : Int) : Prop where
  asc : ∀ (i j : Nat) r s, i < j → R[i]? = some r → R[j]? = some s → r.hid < s.hid
  pos : ∀ (i : Nat) r, R[i]? = some r → 1 ≤ r.hid ∧ r.hid ≤ top
  kn : ∀ (i : Nat) r, R[i]? = some r → r.known = 0 ∨ r.known = r.hid
inductive Gone (R : List Rw) (uid : Int) : Nat → Nat → List Rw → Prop
  | known (a : Nat) (r : Rw) : R[a]? = some r → r.hid = uid → r.known ≠ 0 → Gone R uid a a (R.eraseIdx a)
  | unknown (a : Nat) (r : Rw) (lo hi : Nat) : R[a]? = some r → r.hid = uid → r.known = 0 → IsRun R lo hi → lo ≤ a → a ≤ hi → Gone R uid a hi ((blankR R lo (hi + 1)).eraseIdx a)
section
variable {P : Params} {C : Cx} {σ : St} {Φ : Value → St → Prop} {c : Addr} {d : CopyD} {hs : List Addr} {R : List Rw} {top : Int}
def unk (R : List Rw) : Nat → Int
  | 0 => -1
  | j + 1 => match R[j]? with
    | some r => if r.known = 0 then (j : Int) else -1
    | none => -1
theorem unk_succ {j : Nat} {r : Rw} (hr : R[j]? = some r) : unk R (j + 1) = if r.known = 0 then (j : Int) else -1 := by simp only [unk, hr]
theorem place_gone_spec (G : Gr P C.b) (ok : OkA C.A 2) (X : CopyIs σ.H c d hs R) (A : Good R top) {uid : Int} {a p : Nat} {R' : List Rw} (N : Gone R uid a p R') (k : ∀ H', Same σ.H H' → Φ (.int p 0) ⟨σ.m, H'⟩) : CodeTo C (.ref 246) [.ref c, .int uid 0] σ Φ := by
  refine (f_place_gone P).call G ok (bind2 (n1 := "copy") (n2 := "uid") (fun x y => by kernel_rfl) (by kernel_rfl) (by kernel_rfl)) fun b L env Gb okb E => ?_
  have hz := X.small
  -- where the loop stops
  obtain ⟨ra, hra, hua⟩ : ∃ r, R[a]? = some r ∧ r.hid = uid := by cases N with | known r h1 h2 => exact ⟨r, h1, h2⟩ | unknown r _ _ h1 h2 => exact ⟨r, h1, h2⟩
  have hal := (List.getElem?_eq_some_iff.mp hra).1
  have hup := A.pos a ra hra
  rw [hua] at hup
  have other : ∀ (j : Nat) r, R[j]? = some r → j ≠ a → r.known ≠ uid ∧ (j < a → r.known < uid) ∧ (a < j → r.known ≠ 0 → uid < r.known) := fun j r hr hj => by
    rcases A.kn j r hr with e | e
    · rw [e]; exact ⟨by omega, fun _ => by omega, fun _ z => absurd rfl z⟩
    · rw [e]
      rcases Nat.lt_trichotomy j a with q | q | q
      · have := A.asc j a r ra q hr hra; rw [hua] at this; exact ⟨by omega, fun _ => this, fun z => by omega⟩
      · exact absurd q hj
      · have := A.asc a j ra r q hra hr; rw [hua] at this; exact ⟨by omega, fun z => by omega, fun _ _ => this⟩
  obtain ⟨S, hS⟩ : ∃ S : Nat, (ra.known ≠ 0 ∧ S = a ∧ p = a) ∨ (ra.known = 0 ∧ S = p + 1 ∧ a ≤ p ∧ p < R.length ∧ (∀ (j : Nat) r, a ≤ j → j ≤ p → R[j]? = some r → r.known = 0) ∧ ∀ r, R[p + 1]? = some r → r.known ≠ 0) := by
    cases N with
    | known r h1 h2 h3 => rw [hra] at h1; cases h1; exact ⟨a, .inl ⟨h3, rfl, rfl⟩⟩
    | unknown r lo _ h1 h2 h3 h4 h5 h6 => rw [hra] at h1; cases h1; exact ⟨p + 1, .inr ⟨h3, rfl, h6, h4.lt, fun j r a1 a2 => h4.zero j r (by omega) a2, h4.right⟩⟩
  refine Exs.cons (Ex.assign rfl E.kind (E.kinds _ _ (by rfl)) E.loc (Pe.ev (Ev.neg Pe.int) ?_))
  refine Exs.cons (Ex.forR okb.hd E (by rfl) ?_)
  refine Ev.call Gb (Pe.ev (nm_range E Gb (by rfl)) ⟨.inr (.inl ⟨_, rfl⟩), ?_⟩)
  refine As.cons (Pe.ev (call_len Gb E (by rfl) (rows_pe Gb (Pe.l E (by rfl) (pm_ne (by rfl) (by rfl)) (by rfl)) X) X.rows (by rw [X.lenR]; omega)) ?_)
  refine As.nil (CallTo.range1 fun rg hrg => ?_)
  refine ⟨rg, 0, (refs hs).length, rfl, upd_self _ _ _, by omega, by omega, by rw [X.lenR]; omega, fun j σ' => Same σ.H σ'.H ∧ σ'.m "copy" = some (.ref c) ∧ σ'.m "uid" = some (.int uid 0) ∧ σ'.m "unknown" = some (.int (unk R j) 0) ∧ j ≤ S, ⟨same_new hrg, pm_ne (by rfl) (by rfl), pm_ne (by rfl) (by rfl), pm_self, Nat.zero_le _⟩, ?_, ?_⟩
  · intro F j σ' hj ⟨k1, m1, m2, m3, hjS⟩
    rw [X.lenR] at hj
    obtain ⟨r, hr⟩ : ∃ r, R[j]? = some r := ⟨R[j], by simp [hj]⟩
    have X' := X.same k1
    refine Exs.cons (Ex.assign rfl E.kind (E.kinds _ _ (by rfl)) E.loc (Pe.ev (row_uid Gb (Pe.l E (by rfl) (pm_ne (by rfl) m1) (by rfl)) (Pe.l E (by rfl) pm_self (by rfl)) X' (Int.zero_add _) hr) ?_))
    refine Exs.cons (Ex.ifP (Pt.cmp (Pe.l E (by rfl) pm_self (by rfl)) (Pe.l E (by rfl) (pm_ne (by rfl) (pm_ne (by rfl) m2)) (by rfl)) CmpTo.eq (by rfl)) (fun hq => ?_) fun hq => Exs.nil ?_)
    · -- it is this one
      have hku : r.known = uid := by simpa using hq
      have hja : j = a := Decidable.byContradiction fun z => (other j r hr z).1 hku
      subst hja
      rw [hra] at hr; cases hr
      refine Exs.cons (Ex.ret (Pe.ev (Pe.l E (by rfl) (pm_ne (by rfl) pm_self) (by rfl)) ?_))
      have hp : p = j := by
        rcases hS with ⟨_, _, e⟩ | ⟨e, _⟩
        · exact e
        · omega
      have := k σ'.H k1
      rw [hp] at this
      rw [Int.zero_add]
      exact this
    · have hku : r.known ≠ uid := by simpa using hq
      by_cases hgt : r.known > uid
      · -- beyond
        refine Exs.cons (Ex.ifP (c := true) (Pt.to (Pt.cmp (Pe.l E (by rfl) pm_self (by rfl)) (Pe.l E (by rfl) (pm_ne (by rfl) (pm_ne (by rfl) m2)) (by rfl)) CmpTo.gt (by rfl)) (by simpa using hgt)) (fun _ => ?_) fun q => absurd q (by decide))
        refine Exs.cons (Ex.brk ?_)
        have hja : a < j := by
          rcases Nat.lt_trichotomy j a with q | q | q
          · have := (other j r hr (by omega)).2.1 q; omega
          · subst q; rw [hra] at hr; cases hr
            rcases A.kn j _ hra with e | e
            · omega
            · rw [hua] at e; exact absurd e hku
          · exact q
        rcases hS with ⟨_, e, _⟩ | ⟨h0, e, h1, h2, h3, h4⟩
        · omega
        have hjp : j = p + 1 := by
          rcases Nat.lt_or_ge p j with q | q
          · omega
          · have := h3 j r (by omega) q hr; omega
        obtain ⟨rp, hrp⟩ : ∃ r, R[p]? = some r := ⟨R[p], by simp [h2]⟩
        have hun : unk R j = p := by
          rw [hjp, unk_succ hrp, if_pos (h3 p rp h1 (Nat.le_refl _) hrp)]
        rw [hun] at m3
        refine Exs.cons (Ex.ifP (c := false) (Pt.to (Pt.cmp (Pe.l E (by rfl) (pm_ne (by rfl) (pm_ne (by rfl) m3)) (by rfl)) Pe.int CmpTo.lt (by rfl)) (by simp)) (fun q => absurd q (by decide)) fun _ => Exs.nil ?_)
        exact Exs.cons (Ex.ret (Pe.ev (Pe.l E (by rfl) (pm_ne (by rfl) (pm_ne (by rfl) m3)) (by rfl)) (k _ k1)))
      · refine Exs.cons (Ex.ifP (c := false) (Pt.to (Pt.cmp (Pe.l E (by rfl) pm_self (by rfl)) (Pe.l E (by rfl) (pm_ne (by rfl) (pm_ne (by rfl) m2)) (by rfl)) CmpTo.gt (by rfl)) (by simpa using hgt)) (fun q => absurd q (by decide)) fun _ => Exs.nil ?_)
        refine Exs.cons (Ex.assign rfl E.kind (E.kinds _ _ (by rfl)) E.loc (Pe.ev (Pe.ifexp (Pt.cmp (Pe.l E (by rfl) pm_self (by rfl)) Pe.int CmpTo.eq (by rfl)) (fun _ => Pe.l E (by rfl) (pm_ne (by rfl) pm_self) (by rfl)) fun _ => Ev.neg Pe.int) ?_))
        refine Exs.nil ⟨k1, pm_ne (by rfl) (pm_ne (by rfl) (pm_ne (by rfl) m1)), pm_ne (by rfl) (pm_ne (by rfl) (pm_ne (by rfl) m2)), ?_, ?_⟩
        · have : unk R (j + 1) = if r.known = 0 then (j : Int) else -1 := unk_succ hr
          rw [this]
          refine pm_self.trans ?_
          by_cases h0 : r.known = 0
          · rw [if_pos (by simp [h0]), if_pos h0, Int.zero_add]
          · rw [if_neg (by simp [h0]), if_neg h0]
        · rcases hS with ⟨h0, e, _⟩ | ⟨h0, e, h1, h2, h3, h4⟩
          · have : j ≠ a := fun z => by
              subst z; rw [hra] at hr; cases hr
              rcases A.kn j _ hra with e | e
              · exact h0 e
              · rw [hua] at e; exact hku e
            omega
          · have : j ≠ p + 1 := fun z => by
              subst z
              have h5 := h4 r hr
              have := (other (p + 1) r hr (by omega)).2.2 (by omega) h5
              omega
            omega
  · intro σ' ⟨k1, m1, m2, m3, hjS⟩
    rw [X.lenR] at m3 hjS
    rcases hS with ⟨h0, e, _⟩ | ⟨h0, e, h1, h2, h3, h4⟩
    · omega
    have hl : R.length = p + 1 := by omega
    obtain ⟨rp, hrp⟩ : ∃ r, R[p]? = some r := ⟨R[p], by simp [h2]⟩
    have hun : unk R R.length = p := by
      rw [hl, unk_succ hrp, if_pos (h3 p rp h1 (Nat.le_refl _) hrp)]
    rw [hun] at m3
    refine Exs.cons (Ex.ifP (c := false) (Pt.to (Pt.cmp (Pe.l E (by rfl) m3 (by rfl)) Pe.int CmpTo.lt (by rfl)) (by simp)) (fun q => absurd q (by decide)) fun _ => Exs.nil ?_)
    exact Exs.cons (Ex.ret (Pe.ev (Pe.l E (by rfl) m3 (by rfl)) (k _ k1)))
end
end Mine
end
section
set_option maxRecDepth 100000
set_option Elab.async false
set_option linter.unusedVariables false
namespace Mine
open PySem PySem.W PySem.Calls PyProof.Rows

theorem Helds.erase {H : AH} {hs : List Addr} {R : List Rw} (X : Helds H hs R) {a : Nat} (ha : a < R.length) : Helds H (hs.eraseIdx a) (R.eraseIdx a) := by
  refine ⟨by rw [List.length_eraseIdx, List.length_eraseIdx, X.len], fun i h r e1 e2 => ?_⟩
  rw [List.getElem?_eraseIdx] at e1 e2
  split at e1
  · rename_i q; rw [if_pos q] at e2; exact X.at_ i h r e1 e2
  · rename_i q; rw [if_neg q] at e2; exact X.at_ _ h r e1 e2
theorem blank_at {R : List Rw} {lo hi j : Nat} (N : IsRun R lo hi) (h1 : lo ≤ j) (h2 : j ≤ hi) {r : Rw} (h : (blankR R lo (hi + 1))[j]? = some r) : Blank r := by
  rw [blankR_get] at h
  obtain ⟨r', e1, e2⟩ := Option.map_eq_some_iff.mp h
  rw [if_pos (by omega)] at e2
  subst e2
  exact ⟨N.zero j r' h1 h2 e1, rfl, rfl⟩
theorem HeldAt.blank {H : AH} {h : Addr} {r s : Rw} (X : HeldAt H h r) (a : Blank r) (b : Blank s) : HeldAt H h s := by
  obtain ⟨fv, f, o⟩ := X
  refine ⟨fv, ?_, ?_⟩
  · rw [b.2.1]; rw [a.2.1] at f; exact f
  · rw [b.1, b.2.2]; rw [a.1, a.2.2] at o; exact o
theorem Helds.erase2 {H : AH} {hs : List Addr} {R : List Rw} {lo hi a : Nat} (N : IsRun R lo hi) (h1 : lo ≤ a) (h2 : a ≤ hi) (X : Helds H hs (blankR R lo (hi + 1))) : Helds H (hs.eraseIdx hi) ((blankR R lo (hi + 1)).eraseIdx a) := by
  have hl := X.len
  have hb := @blankR_len R lo (hi + 1)
  have hlt := N.lt
  refine ⟨by rw [List.length_eraseIdx, List.length_eraseIdx, if_pos (by omega), if_pos (by omega), hl], fun i h r e1 e2 => ?_⟩
  rw [List.getElem?_eraseIdx] at e1 e2
  by_cases q1 : i < a
  · rw [if_pos (by omega)] at e1; rw [if_pos q1] at e2; exact X.at_ i h r e1 e2
  · rw [if_neg q1] at e2
    by_cases q2 : i < hi
    · rw [if_pos q2] at e1
      obtain ⟨r', e3⟩ : ∃ r', (blankR R lo (hi + 1))[i]? = some r' := ⟨_, List.getElem?_eq_getElem (by omega)⟩
      exact (X.at_ i h r' e1 e3).blank (blank_at N (by omega) (by omega) e3) (blank_at N (by omega) (by omega) e2)
    · rw [if_neg q2] at e1; exact X.at_ _ h r e1 e2
theorem Gone.row {R R' : List Rw} {uid : Int} {a p : Nat} (N : Gone R uid a p R') : ∃ r, R[a]? = some r ∧ r.hid = uid := by cases N with | known r h1 h2 => exact ⟨r, h1, h2⟩ | unknown r _ _ h1 h2 => exact ⟨r, h1, h2⟩
theorem Keep.none {S : Addr → Prop} {H H' : AH} (k : Keep S H H') (h : ∀ x, S x → H' x ≠ none) : ∀ x, H' x = none → H x = none := fun x hx => by
  cases q : H x with
  | none => rfl
  | some o =>
    by_cases z : S x
    · exact absurd hx (h x z)
    · rw [k.get q z] at hx; cases hx
theorem refs_erase {hs : List Addr} {p : Nat} : (refs hs).eraseIdx p = refs (hs.eraseIdx p) := by
  unfold refs
  rw [List.eraseIdx_eq_take_drop_succ, List.eraseIdx_eq_take_drop_succ, List.map_append, List.map_take, List.map_drop]
theorem mem_erase {α : Type} {l : List α} {k : Nat} {x : α} (h : x ∈ l.eraseIdx k) : x ∈ l := List.mem_of_mem_eraseIdx h
section
variable {P : Params} {C : Cx} {σ : St} {Φ : Value → St → Prop} {c : Addr} {d : CopyD} {hs : List Addr} {R : List Rw} {top : Int}
/-- a row falls out of the copy's list -/
theorem cut_stmt (G : Gr P C.b) {env : Env} {L : Addr} (E : EnvIs env L n_drop_uid []) {b : Heap} (Gb : Gr P b) {Ψ : Flow → St → Prop} {σ : St} (X : CopyIs σ.H c d hs R) {p : Nat} {R' : List Rw} (hp : p < hs.length) (m1 : σ.m "copy" = some (.ref c)) (m2 : σ.m "place" = some (.int p 0))
    (hH : ∀ H', Keep (fun x => x = c) σ.H H' → Helds H' hs R → Helds H' (hs.eraseIdx p) R') (hz : R'.length ≤ 1000)
    (k : ∀ H' r', Keep (fun x => x = c) σ.H H' → σ.H r' = none → CopyIs H' c { d with rows := r' } (hs.eraseIdx p) R' → Ψ .next ⟨σ.m, H'⟩) :
    Exs (C.call env b L) env (match (bodyF 21)[2]? with | some s => [s] | none => []) σ Ψ := by
  have hlen := X.lenR
  have hz1 := X.small
  refine Exs.cons (Ex.setattr Gb rfl (Ev.addl ?_))
  refine Ev.upto (n := p) (rows_pe Gb (Pe.l E (by rfl) m1 (by rfl)) X) X.rows (Pe.l E (by rfl) m2 (by rfl)) rfl (by omega) fun a ha => ?_
  have k1 : Same σ.H (upd σ.H a (.list ((refs hs).take p))) := same_new ha
  have X1 := X.same k1
  refine Ev.from_ (n := p + 1) (rows_pe Gb (Pe.l E (by rfl) m1 (by rfl)) X1) X1.rows (Pe.binop (Pe.l E (by rfl) m2 (by rfl)) Pe.int OpTo.add) (by omega) (by omega) fun a2 ha2 => ?_
  have k2 := same_new (o := .list ((refs hs).drop (p + 1))) ha2
  refine ⟨a, a2, _, _, rfl, rfl, k2.at (upd_self _ _ _), upd_self _ _ _, len_k ?_, fun r' hr' => ?_⟩
  · rw [List.length_take, List.length_drop]; omega
  have k3 := same_new (o := .list ((refs hs).take p ++ (refs hs).drop (p + 1))) hr'
  have k123 : Same σ.H _ := (k1.trans k2).trans k3
  refine Pe.ev (Pe.l E (by rfl) m1 (by rfl)) ⟨c, 218, _, rfl, k123.at X.obj, set_218_rows P, le900 (by rfl), ?_⟩
  have kk : Keep (fun x => x = c) σ.H (upd (upd (upd (upd σ.H a (.list ((refs hs).take p))) a2 (.list ((refs hs).drop (p + 1)))) r' (.list ((refs hs).take p ++ (refs hs).drop (p + 1)))) c (copyO { d with rows := r' })) := (Same.weak k123).put (.inr rfl)
  have hrc : r' ≠ c := fun z => by
    have := (k1.trans k2).at X.obj
    rw [z] at hr'; dsimp only at hr'; rw [this] at hr'; cases hr'
  refine Exs.nil (k _ r' kk (Same.none (k1.trans k2) hr') ⟨upd_self _ _ _, ?_, kk.get X.kept (fun z => by have := X.kept; rw [z, X.obj] at this; cases this), hH _ kk (X.helds.keep kk (fun x vs q z => by rw [z, X.obj] at q; cases q) fun h hm z => ?_), hz⟩)
  · dsimp only
    rw [upd_ne hrc, upd_self, ← List.eraseIdx_eq_take_drop_succ, refs_erase]
  · obtain ⟨u, f, m, ho⟩ := X.helds.ne hm
    rw [z, X.obj] at ho; cases ho
theorem drop_uid_spec (G : Gr P C.b) (ok : OkA C.A 4) (X : CopyIs σ.H c d hs R) (I : Inj hs) (A : Good R top) {uid : Int} {a p : Nat} {R' : List Rw} (N : Gone R uid a p R')
    (k : ∀ H' r' hs', Keep (fun x => x = c ∨ x = d.rows) σ.H H' → (∀ x, H' x = none → σ.H x = none) → σ.H r' = none → Inj hs' → (∀ h ∈ hs', h ∈ hs ∨ σ.H h = none) → CopyIs H' c { d with rows := r' } hs' R' → Φ .none ⟨σ.m, H'⟩) : CodeTo C (.ref 260) [.ref c, .int uid 0] σ Φ := by
  refine (f_drop_uid P).call G ok (bind2 (n1 := "copy") (n2 := "uid") (fun x y => by kernel_rfl) (by kernel_rfl) (by kernel_rfl)) fun b L env Gb okb E => ?_
  refine Exs.cons (Ex.assign rfl E.kind (E.kinds _ _ (by rfl)) E.loc (Ev.call Gb (Pe.ev (Pe.g E Gb (by rfl) (g_place_gone P) (by rfl)) ⟨k_place_gone P, ?_⟩)))
  refine As.cons (Pe.ev (Pe.l E (by rfl) (by rfl) (by rfl)) (As.cons (Pe.ev (Pe.l E (by rfl) (by rfl) (by rfl)) (As.nil (CodeTo.call (place_gone_spec Gb (by exact okb.le (by omega)) (by exact X) A N fun H1 k1 => ?_))))))
  have X1 := X.same k1
  have hz := X.small
  cases N with
  | known r h1 h2 h3 =>
    have hal := (List.getElem?_eq_some_iff.mp h1).1
    refine Exs.cons (Ex.ifP (c := false) (Pt.to (Pt.cmp (row_uid Gb (Pe.l E (by rfl) (pm_ne (by rfl) (by rfl)) (by rfl)) (Pe.l E (by rfl) pm_self (by rfl)) X1 rfl h1) Pe.int CmpTo.eq (by rfl)) (by simpa using h3)) (fun q => absurd q (by decide)) fun _ => Exs.nil ?_)
    refine cut_stmt G E Gb X1 (by rw [X.helds.len]; exact hal) (pm_ne (by rfl) (by rfl)) pm_self (fun H' _ Y => Y.erase hal) (by rw [List.length_eraseIdx]; split <;> omega) fun H' r' k2 hr' X2 => ?_
    exact k H' r' _ ((Same.weak k1).trans (k2.weak fun x z => .inl z)) (fun x hx => k1.none (k2.none (fun y z q => by rw [z, X2.obj] at q; cases q) x hx)) (k1.none hr') (I.erase _) (fun h hh => .inl (mem_erase hh)) X2
  | unknown r lo _ h1 h2 h3 h4 h5 h6 =>
    have hpl := h4.lt
    obtain ⟨rp, hrp⟩ : ∃ r, R[p]? = some r := ⟨R[p], by simp [hpl]⟩
    have h0 := h4.zero p rp (by omega) (Nat.le_refl _) hrp
    refine Exs.cons (Ex.ifP (c := true) (Pt.to (Pt.cmp (row_uid Gb (Pe.l E (by rfl) (pm_ne (by rfl) (by rfl)) (by rfl)) (Pe.l E (by rfl) pm_self (by rfl)) X1 rfl hrp) Pe.int CmpTo.eq (by rfl)) (by simpa using h0)) (fun _ => ?_) fun q => absurd q (by decide))
    refine Exs.cons (Ex.expr ?_ E.quiet rfl)
    refine Ev.call Gb (Pe.ev (Pe.g E Gb (by rfl) (g_blur P) (by rfl)) ⟨k_blur P, ?_⟩)
    refine As.cons (Pe.ev (Pe.l E (by rfl) (pm_ne (by rfl) (by rfl)) (by rfl)) (As.cons (Pe.ev (Pe.l E (by rfl) pm_self (by rfl)) (As.nil (CodeTo.call (blur_spec Gb okb X1 I h4 (by omega) (Nat.le_refl _) fun H2 hs2 k2 I2 J2 X2 => ?_))))))
    refine Exs.nil ?_
    have hl2 : hs2.length = R.length := by rw [X2.helds.len, blankR_len]
    refine cut_stmt G E Gb X2 (by omega) (pm_ne (by rfl) (by rfl)) pm_self (fun H' _ Y => Y.erase2 h4 h5 h6) (by rw [List.length_eraseIdx, blankR_len]; split <;> omega) fun H' r' k3 hr' X3 => ?_
    have lv : ∀ x, H2 x = none → σ.H x = none := fun x hx => k1.none (k2.none (fun y z q => by rw [z, X2.rows] at q; cases q) x hx)
    refine k H' r' _ (((Same.weak k1).trans (k2.weak fun x z => .inr z)).trans (k3.weak fun x z => .inl z)) (fun x hx => lv x (k3.none (fun y z q => by rw [z, X3.obj] at q; cases q) x hx)) (lv r' hr') (I2.erase _) (fun h hh => ?_) X3
    rcases J2 h (mem_erase hh) with q | q
    · exact .inl q
    · exact .inr (k1.none q)
theorem take_vanished_spec (G : Gr P C.b) (ok : OkA C.A 6) (X : CopyIs σ.H c d hs R) (I : Inj hs) {us : List Int} {S : Addr} {vs : List Value} (hS : σ.H S = some (.tup vs)) (hP : IntPairs σ.H vs (us.map fun u => (u, u))) (hA : Asc (us.map fun u => (u, u))) (hne : us ≠ []) (hul : us.length ≤ 3) (hur : us.length ≤ R.length) (htop : top ≤ 50000)
    {Rs : Nat → List Rw} (h0 : Rs 0 = R) (step : ∀ (i : Nat) u, us[i]? = some u → Good (Rs i) top ∧ ∃ a p, Gone (Rs i) u a p (Rs (i + 1)))
    (k : ∀ H' r' hs', Keep (fun x => x = c ∨ x = d.rows) σ.H H' → (∀ x, H' x = none → σ.H x = none) → σ.H r' = none ∨ r' = d.rows → Inj hs' → (∀ h ∈ hs', h ∈ hs ∨ σ.H h = none) → CopyIs H' c { d with rows := r' } hs' (Rs us.length) → Φ .none ⟨σ.m, H'⟩) :
    CodeTo C (.ref 272) [.ref c, .ref S, .bool false] σ Φ := by
  refine (f_take_vanished P).callC G ok (bindC3 (n1 := "copy") (n2 := "some") (n3 := "is_earlier") (fun x y z => by kernel_rfl)) (by rfl) (by decide) fun b L env H₁ Gb okb E k₁ hc hn => ?_
  have hcopy := (hc "copy" (L + 1) (by simp)).2
  have hsome := (hc "some" (L + 1 + 1) (by simp)).2
  have nc := (hc "copy" (L + 1) (by simp)).1
  have ns := (hc "some" (L + 1 + 1) (by simp)).1
  have X1 := X.same k₁
  have hz := X.small
  have hfl := flat_self us
  have hpl : (us.map fun u => ((u, u) : Int × Int)).length ≤ 50 := by rw [List.length_map]; omega
  have hpn : (us.map fun u => ((u, u) : Int × Int)) ≠ [] := by simpa using hne
  obtain ⟨q, hq⟩ := get_last hpn
  have hqb : q.2 ≤ 50000 := by
    rw [List.getLast?_map] at hq
    obtain ⟨u, hu, e⟩ := Option.map_eq_some_iff.mp hq
    subst e
    rw [List.getLast?_eq_getElem?] at hu
    obtain ⟨A, a, p, N⟩ := step _ u hu
    obtain ⟨r, hr, e⟩ := N.row
    have := (A.pos a r hr).2
    show u ≤ 50000
    omega
  refine Exs.cons (Ex.ifP (c := false) (Pt.ev (Pe.l E (by rfl) (by rfl) (by rfl))) (fun q => absurd q (by decide)) fun _ => Exs.nil ?_)
  refine Exs.cons (Ex.if_ (It.cmp (by rfl) ?_))
  refine Ev.call Gb (Pe.ev (Pe.g E Gb (by rfl) (g_size_of P) (by rfl)) ⟨k_size_of P, As.cons (Pe.ev (Pe.ce E (by rfl) (by rfl) hsome (by rfl)) (As.nil ?_))⟩)
  refine CodeTo.call (size_of_spec Gb okb (k₁.at hS) (hP.same' k₁) hA hpn hpl fun H2 k2 => ?_)
  have X2 := X1.same k2
  refine Pe.ev (call_len Gb E (by rfl) (rows_pe Gb (Pe.ce E (by rfl) (by rfl) (k2.at hcopy) (by rfl)) X2) X2.rows (by rw [X.lenR]; omega)) ⟨false, ?_, ?_⟩
  · have := @CmpTo.gt (C.call env b L) (flat (us.map fun u => (u, u))).length (refs hs).length 0 0
    rwa [show decide (((flat (us.map fun u => (u, u))).length : Int) > (refs hs).length) = false by rw [hfl, List.length_map, X.lenR]; simp; omega] at this
  rw [if_neg (by decide)]
  refine Exs.nil ?_
  refine Exs.cons (Ex.forL okb.hd E (by rfl) (Ev.call Gb (Pe.ev (Pe.g E Gb (by rfl) (g_uids_of P) (by rfl)) ⟨k_uids_of P, As.cons (Pe.ev (Pe.ce E (by rfl) (by rfl) (k2.at hsome) (by rfl)) (As.nil (CodeTo.call ?_)))⟩)))
  refine uids_of_spec Gb okb (k2.at (k₁.at hS)) (hP.same' (k₁.trans k2)) hA hq hpl hqb fun H3 ul k3 hl => ?_
  rw [hfl] at hl
  have k13 : Same σ.H H3 := (k₁.trans k2).trans k3
  have X3 := X2.same k3
  refine ⟨ul, us.map fun u => .int u 0, rfl, hl, fun i σ' => Keep (fun x => x = c ∨ x = d.rows) H3 σ'.H ∧ (∀ x, σ'.H x = none → H3 x = none) ∧ ∃ r' hs', (H3 r' = none ∨ r' = d.rows) ∧ Inj hs' ∧ (∀ h ∈ hs', h ∈ hs ∨ H3 h = none) ∧ CopyIs σ'.H c { d with rows := r' } hs' (Rs i), ⟨Keep.refl, fun x hx => hx, d.rows, hs, .inr rfl, I, fun h hh => .inl hh, h0 ▸ X3⟩, fun i σ' h => h.1.get hl ?_, ?_, ?_⟩
  · rintro (z | z)
    · have := X3.obj; rw [← z, hl] at this; cases this
    · have := X3.rows; rw [← z, hl] at this
      have e : (us.map fun u => Value.int u 0) = refs hs := by injection Option.some.inj this
      cases us with
      | nil => exact hne rfl
      | cons u r => cases hs with
        | nil => cases e
        | cons h t => cases e
  · intro F i v σ' hv ⟨k4, lv4, r', hs', hr', I4, J4, X4⟩
    rw [List.getElem?_map] at hv
    obtain ⟨u, hu, rfl⟩ := Option.map_eq_some_iff.mp hv
    obtain ⟨A, a, p, N⟩ := step i u hu
    have hcc : σ'.H (L + 1) = some (.cell (.ref c)) := k4.get (k3.at (k2.at hcopy)) (by
      rintro (z | z)
      · rw [z, X.obj] at nc; cases nc
      · rw [z, X.rows] at nc; cases nc)
    refine Exs.cons (Ex.expr ?_ E.quiet rfl)
    refine Ev.call Gb (Pe.ev (Pe.g E Gb (by rfl) (g_drop_uid P) (by rfl)) ⟨k_drop_uid P, As.cons (Pe.ev (Pe.ce E (by rfl) (by rfl) hcc (by rfl)) (As.cons (Pe.ev (Pe.l E (by rfl) pm_self (by rfl)) (As.nil (CodeTo.call ?_)))))⟩)
    refine drop_uid_spec Gb (by exact okb.le (by omega)) (by exact X4) I4 A N fun H5 r5 hs5 k5 lv5 hr5 I5 J5 X5 => ?_
    refine Exs.nil ⟨k4.trans' k5 ?_, fun x hx => lv4 x (lv5 x hx), r5, hs5, .inl (lv4 _ hr5), I5, fun h hh => ?_, X5⟩
    · rintro x (z | z)
      · exact .inr (.inl z)
      · rcases hr' with q | q
        · exact .inl (by rw [z]; exact q)
        · exact .inr (.inr (z.trans q))
    · rcases J5 h hh with q | q
      · exact J4 h q
      · exact .inr (lv4 _ q)
  · intro σ' ⟨k4, lv4, r', hs', hr', I4, J4, X4⟩
    rw [List.length_map] at X4
    refine Exs.nil (k σ'.H r' hs' ((Same.weak k13).trans k4) (fun x hx => k13.none (lv4 x hx)) ?_ I4 (fun h hh => ?_) X4)
    · exact hr'.imp (fun q => k13.none q) id
    · exact (J4 h hh).imp id fun q => k13.none q
end
end Mine
end
section
set_option maxRecDepth 100000
set_option Elab.async false
set_option linter.unusedVariables false
namespace Mine
open PySem PySem.W PySem.Calls PyProof.Rows

theorem Helds.keepC {H H' : AH} {hs : List Addr} {R : List Rw} {c : Addr} {fs : List (Str × Value)} (X : Helds H hs R) (hc : H c = some (.inst 218 fs)) (k : Keep (fun x => x = c) H H') : Helds H' hs R :=
  X.keep k (fun x vs q z => by rw [z, hc] at q; cases q) fun h hm z => by
    obtain ⟨u, f, m, ho⟩ := X.ne hm
    rw [z, hc] at ho; cases ho
theorem CopyIs.keepC {H H' : AH} {c : Addr} {d d' : CopyD} {hs : List Addr} {R : List Rw} (X : CopyIs H c d hs R) (k : Keep (fun x => x = c) H H') (ho : H' c = some (copyO d')) (hr : d'.rows = d.rows) (hk : H' d'.kept = some .edict) : CopyIs H' c d' hs R :=
  ⟨ho, by rw [hr]; exact k.get X.rows (fun z => by have := X.rows; rw [z, X.obj] at this; cases this), hk, X.helds.keepC X.obj k, X.small⟩
theorem CopyIs.kc {H : AH} {c : Addr} {d : CopyD} {hs : List Addr} {R : List Rw} (X : CopyIs H c d hs R) : d.kept ≠ c := fun z => by have := X.kept; rw [z, X.obj] at this; cases this
section
variable {P : Params} {C : Cx} {σ : St} {Φ : Value → St → Prop} {c : Addr} {d : CopyD} {hs : List Addr} {R : List Rw}
theorem take_kept_spec (G : Gr P C.b) (ok : OkA C.A 4) (X : CopyIs σ.H c d hs R) {S : Addr}
    (k : ∀ H' kd, Keep (fun x => x = c) σ.H H' → σ.H kd = none → CopyIs H' c { d with kept := kd } hs R → Φ .none ⟨σ.m, H'⟩) : CodeTo C (.ref 272) [.ref c, .ref S, .bool true] σ Φ := by
  refine (f_take_vanished P).callC G ok (bindC3 (n1 := "copy") (n2 := "some") (n3 := "is_earlier") (fun x y z => by kernel_rfl)) (by rfl) (by decide) fun b L env H₁ Gb okb E k₁ hc hn => ?_
  have hcopy := (hc "copy" (L + 1) (by simp)).2
  have X1 := X.same k₁
  refine Exs.cons (Ex.ifP (c := true) (Pt.ev (Pe.l E (by rfl) (by rfl) (by rfl))) (fun _ => ?_) fun q => absurd q (by decide))
  refine Exs.cons (Ex.setattr Gb rfl (Ev.call Gb (Pe.ev (nm_dict E Gb (by rfl)) ⟨.inr (.inl ⟨_, rfl⟩), As.cons ?_⟩)))
  refine Ev.compP (C := C.call env b L) Gb okb.hd [] E (cl := [("some", L + 1 + 1), ("copy", L + 1)]) (Nat.le_refl _) (by
    obtain ⟨⟩ := env
    have := E.cells
    dsimp only at this
    subst this
    rfl) (by decide) rfl (by decide) (by rfl) (by rfl) ?_
  refine Pe.ev (Pe.attr Gb (Pe.ce E (by rfl) (by rfl) hcopy (by rfl)) X1.obj (get_218_kept P) (by rfl) (by rfl)) ⟨d.kept, [], _, _, fun _ => none, rfl, IterOver.edict (C := C.call env b L) okb.hd d.kept, X1.kept, MakesIter.edict X1.kept, len_small (by rfl), fun b' L' F i v m env' _ _ hv => by simp at hv, fun n hn' => ?_⟩
  refine As.nil (CallTo.dict0 okb.hd Gb (upd_self _ _ _) fun kd hkd => ?_)
  have k2 : Same H₁ (upd (upd H₁ n (.list [])) kd .edict) := (same_new hn').trans (same_new hkd)
  refine Pe.ev (Pe.ce E (by rfl) (by rfl) (k2.at hcopy) (by rfl)) ⟨c, 218, _, rfl, k2.at X1.obj, set_218_kept P, le900 (by rfl), ?_⟩
  have hkc : kd ≠ c := fun z => by
    have h7 := (same_new (o := .list []) hn').at X1.obj
    have h8 : upd H₁ n (.list []) kd = none := hkd
    rw [z] at h8; dsimp only at h7; rw [h7] at h8; cases h8
  have kk : Keep (fun x => x = c) σ.H (upd (upd (upd H₁ n (.list [])) kd .edict) c (copyO { d with kept := kd })) := (Same.weak (k₁.trans k2)).put (.inr rfl)
  refine Exs.cons (Ex.ret0 (k _ kd kk ?_ (X.keepC kk (upd_self _ _ _) rfl ?_)))
  · exact k₁.none (Same.none (same_new hn') hkd)
  · show upd _ c _ kd = _
    rw [upd_ne hkc]; exact upd_self _ _ _
theorem code_word_none (G : Gr P C.b) (ok : OkA C.A 2) (k : Φ (.str "" 0) σ) : CodeTo C (.ref 279) [.none] σ Φ := by
  refine (f_code_word P).call G ok (bind1 (n1 := "code") (fun x => by kernel_rfl) (by kernel_rfl)) fun b L env Gb okb E => ?_
  refine Exs.cons (Ex.ifP (c := true) (Pt.or3 (x := true) (y := false) (z := false) (Pt.cmp (Pe.l E (by rfl) (by rfl) (by rfl)) Pe.none_ CmpTo.isNone (by rfl)) (fun q => absurd q (by decide)) fun q => absurd q (by decide)) (fun _ => ?_) fun q => absurd q (by decide))
  exact Exs.cons (Ex.ret (Pe.ev Pe.str k))
theorem call_isinstance_atom (G : Gr P C.b) {env : Env} {names : List (Str × NameKind)} {cl : List (Str × Addr)} (E : EnvIs env C.L names cl) {e : Expr} {np ap pos : Pos} {a : Addr} {t : Str} (h1 : names.lookup ("isinstance" : Str) = some .globalImplicit) (h2 : names.lookup ("Atom" : Str) = some .globalImplicit) (he : Pe C env e σ (.ref a)) (ha : σ.H a = some (atomO t))
    (hst : starEach [e, .Name "Atom" ap] env = (false, eval e env) :: starEach [.Name "Atom" ap] env := by rfl) (han : (backTo pos (starEach [e, .Name "Atom" ap] env)).any (·.1) = false := by rfl)
    (hc : eval (.Call (.Name "isinstance" np) [e, .Name "Atom" ap] [] pos) env = (do callWith pos (← eval (.Name "isinstance" np) env) [] (backTo pos (starEach [e, .Name "Atom" ap] env)) (backToKw pos (keywordEach [] env))) := by rfl) : Pe C env (.Call (.Name "isinstance" np) [e, .Name "Atom" ap] [] pos) σ (.bool true) := by
  refine Ev.call G ?_ han hc
  refine Pe.ev (nm_isinstance E G h1) ⟨.inl ⟨_, rfl⟩, As.cons (Pe.ev he (As.cons (Pe.ev (Pe.g E G h2 (g_Atom P) (by rfl)) (As.nil ?_)))) hst⟩
  exact CallTo.isInst G ha (by kernel_rfl) ⟨rfl, rfl⟩
theorem code_word_spec (G : Gr P C.b) (ok : OkA C.A 2) {l a : Addr} {t : Str} {vs : List Value} (hl : σ.H l = some (.list (.ref a :: vs))) (ha : σ.H a = some (atomO t)) (hz : vs.length ≤ 10) (k : Φ (.str t 0) σ) : CodeTo C (.ref 279) [.ref l] σ Φ := by
  refine (f_code_word P).call G ok (bind1 (n1 := "code") (fun x => by kernel_rfl) (by kernel_rfl)) fun b L env Gb okb E => ?_
  refine Exs.cons (Ex.ifP (c := false) (Pt.or3 (x := false) (y := false) (z := false) (Pt.cmp (Pe.l E (by rfl) (by rfl) (by rfl)) Pe.none_ CmpTo.isNone (by rfl)) (fun _ => Pt.to (Pt.cmp (call_len Gb E (by rfl) (Pe.l E (by rfl) (by rfl) (by rfl)) hl (by simp; omega)) Pe.int CmpTo.eq (by rfl)) (by simp; omega)) fun _ _ => ?_) (fun q => absurd q (by decide)) fun _ => Exs.nil ?_)
  · exact Pt.not (x := true) (Pt.ev (call_isinstance_atom Gb E (by rfl) (by rfl) (Pe.item (Pe.l E (by rfl) (by rfl) (by rfl)) Pe.int hl (by decide) (by decide) (by rfl)) (by exact ha)))
  · exact Exs.cons (Ex.ret (Pe.ev (Pe.attr Gb (Pe.item (Pe.l E (by rfl) (by rfl) (by rfl)) Pe.int hl (by decide) (by decide) (by rfl)) ha (get_132_text P) (by rfl) (by rfl)) k))
theorem code_number_spec (G : Gr P C.b) (ok : OkA C.A 2) {l a : Addr} {n : Int} (hl : σ.H l = some (.list [.ref a, .int n 0])) (k : Φ (.int n 0) σ) : CodeTo C (.ref 286) [.ref l] σ Φ := by
  refine (f_code_number P).call G ok (bind1 (n1 := "code") (fun x => by kernel_rfl) (by kernel_rfl)) fun b L env Gb okb E => ?_
  refine Exs.cons (Ex.ifP (c := false) (Pt.or2 (x := false) (y := false) (Pt.cmp (call_len Gb E (by rfl) (Pe.l E (by rfl) (by rfl) (by rfl)) hl (by simp)) Pe.int CmpTo.lt (by rfl)) fun _ => ?_) (fun q => absurd q (by decide)) fun _ => Exs.nil ?_)
  · refine Pt.not (x := true) (Pt.ev ?_)
    refine Ev.call Gb (Pe.ev (nm_isinstance E Gb (by rfl)) ⟨.inl ⟨_, rfl⟩, ?_⟩)
    refine As.cons (Pe.ev (Pe.item (Pe.l E (by rfl) (by rfl) (by rfl)) Pe.int hl (by decide) (by decide) (by rfl)) (As.cons (Pe.ev (nm_int E Gb (by rfl)) (As.nil (CallTo.isInt ⟨rfl, rfl⟩)))))
  · exact Exs.cons (Ex.ret (Pe.ev (Pe.item (Pe.l E (by rfl) (by rfl) (by rfl)) Pe.int hl (by decide) (by decide) (by rfl)) k))
theorem take_top_spec (G : Gr P C.b) (ok : OkA C.A 2) (X : CopyIs σ.H c d hs R) {tag : Bool} {n : Int} (k : ∀ H', Keep (fun x => x = c) σ.H H' → CopyIs H' c { d with top := if tag then max d.top n else d.top } hs R → Φ .none ⟨σ.m, H'⟩) : CodeTo C (.ref 300) [.ref c, .bool tag, .int n 0] σ Φ := by
  refine (f_take_top P).call G ok (bind3 (n1 := "copy") (n2 := "is_tagged") (n3 := "modseq") (fun x y z => by kernel_rfl) (by kernel_rfl) (by kernel_rfl) (by kernel_rfl)) fun b L env Gb okb E => ?_
  refine Exs.cons (Ex.ifP (c := false) (Pt.ev (Pe.attr Gb (Pe.l E (by rfl) (by rfl) (by rfl)) X.obj (get_218_is_opening P) (by rfl) (by rfl))) (fun q => absurd q (by decide)) fun _ => ?_)
  refine Exs.cons (Ex.ifP (Pt.ev (Pe.l E (by rfl) (by rfl) (by rfl))) (fun q => ?_) fun q => ?_)
  · subst q
    refine Exs.cons (Ex.setattr Gb rfl (Ev.call Gb (Pe.ev (nm_max E Gb (by rfl)) ⟨.inl ⟨_, rfl⟩, ?_⟩)))
    refine As.cons (Pe.ev (Pe.attr Gb (Pe.l E (by rfl) (by rfl) (by rfl)) X.obj (get_218_top P) (by rfl) (by rfl)) (As.cons (Pe.ev (Pe.l E (by rfl) (by rfl) (by rfl)) (As.nil (CallTo.max2 okb.hd ?_)))))
    refine Pe.ev (Pe.l E (by rfl) (by rfl) (by rfl)) ⟨c, 218, _, rfl, X.obj, set_218_top P, le900 (by rfl), ?_⟩
    have kk : Keep (fun x => x = c) σ.H (upd σ.H c (copyO { d with top := max d.top n })) := Keep.upd rfl
    exact Exs.nil (Exs.nil (Exs.nil (k _ kk (X.keepC kk (upd_self _ _ _) rfl (kk.get X.kept X.kc)))))
  · subst q
    exact Exs.nil (Exs.nil (Exs.nil (k _ Keep.refl X)))
theorem take_code_none (G : Gr P C.b) (ok : OkA C.A 3) {tag : Bool} (k : Φ .none σ) : CodeTo C (.ref 307) [.ref c, .bool tag, .none] σ Φ := by
  refine (f_take_code P).call G ok (bind3 (n1 := "copy") (n2 := "is_tagged") (n3 := "code") (fun x y z => by kernel_rfl) (by kernel_rfl) (by kernel_rfl) (by kernel_rfl)) fun b L env Gb okb E => ?_
  refine Exs.cons (Ex.assign rfl E.kind (E.kinds _ _ (by rfl)) E.loc (Ev.call Gb (Pe.ev (Pe.g E Gb (by rfl) (g_code_word P) (by rfl)) ⟨k_code_word P, As.cons (Pe.ev (Pe.l E (by rfl) (by rfl) (by rfl)) (As.nil (CodeTo.call (code_word_none Gb okb ?_))))⟩)))
  refine Exs.cons (Ex.ifP (c := false) (Pt.cmp (Pe.l E (by rfl) pm_self (by rfl)) Pe.str CmpTo.eqs (by rfl)) (fun q => absurd q (by decide)) fun _ => ?_)
  refine Exs.cons (Ex.ifP (c := false) (Pt.cmp (Pe.l E (by rfl) pm_self (by rfl)) Pe.str CmpTo.eqs (by rfl)) (fun q => absurd q (by decide)) fun _ => ?_)
  refine Exs.cons (Ex.ifP (c := false) (Pt.cmp (Pe.l E (by rfl) pm_self (by rfl)) Pe.str CmpTo.eqs (by rfl)) (fun q => absurd q (by decide)) fun _ => ?_)
  refine Exs.cons (Ex.ifP (c := false) (Pt.or2 (x := false) (y := false) (Pt.cmp (Pe.l E (by rfl) pm_self (by rfl)) Pe.str CmpTo.eqs (by rfl)) fun _ => Pt.cmp (Pe.l E (by rfl) pm_self (by rfl)) Pe.str CmpTo.eqs (by rfl)) (fun q => absurd q (by decide)) fun _ => ?_)
  exact Exs.nil (Exs.nil (Exs.nil (Exs.nil (Exs.nil k))))
theorem take_code_top (G : Gr P C.b) (ok : OkA C.A 3) (X : CopyIs σ.H c d hs R) {tag : Bool} {n : Int} {l a : Addr} (hl : σ.H l = some (.list [.ref a, .int n 0])) (ha : σ.H a = some (atomO "HIGHESTMODSEQ"))
    (k : ∀ H', Keep (fun x => x = c) σ.H H' → CopyIs H' c { d with top := if tag then max d.top n else d.top } hs R → Φ .none ⟨σ.m, H'⟩) : CodeTo C (.ref 307) [.ref c, .bool tag, .ref l] σ Φ := by
  refine (f_take_code P).call G ok (bind3 (n1 := "copy") (n2 := "is_tagged") (n3 := "code") (fun x y z => by kernel_rfl) (by kernel_rfl) (by kernel_rfl) (by kernel_rfl)) fun b L env Gb okb E => ?_
  refine Exs.cons (Ex.assign rfl E.kind (E.kinds _ _ (by rfl)) E.loc (Ev.call Gb (Pe.ev (Pe.g E Gb (by rfl) (g_code_word P) (by rfl)) ⟨k_code_word P, As.cons (Pe.ev (Pe.l E (by rfl) (by rfl) (by rfl)) (As.nil (CodeTo.call (code_word_spec Gb okb (by exact hl) (by exact ha) (by simp) ?_))))⟩)))
  refine Exs.cons (Ex.ifP (c := false) (Pt.cmp (Pe.l E (by rfl) pm_self (by rfl)) Pe.str CmpTo.eqs (by rfl)) (fun q => absurd q (by decide)) fun _ => ?_)
  refine Exs.cons (Ex.ifP (c := false) (Pt.cmp (Pe.l E (by rfl) pm_self (by rfl)) Pe.str CmpTo.eqs (by rfl)) (fun q => absurd q (by decide)) fun _ => ?_)
  refine Exs.cons (Ex.ifP (c := true) (Pt.cmp (Pe.l E (by rfl) pm_self (by rfl)) Pe.str CmpTo.eqs (by rfl)) (fun _ => ?_) fun q => absurd q (by decide))
  refine Exs.cons (Ex.expr ?_ E.quiet rfl)
  refine Ev.call Gb (Pe.ev (Pe.g E Gb (by rfl) (g_take_top P) (by rfl)) ⟨k_take_top P, ?_⟩)
  refine As.cons (Pe.ev (Pe.l E (by rfl) (pm_ne (by rfl) (by rfl)) (by rfl)) (As.cons (Pe.ev (Pe.l E (by rfl) (pm_ne (by rfl) (by rfl)) (by rfl)) (As.cons ?_))))
  refine Ev.call Gb (Pe.ev (Pe.g E Gb (by rfl) (g_code_number P) (by rfl)) ⟨k_code_number P, As.cons (Pe.ev (Pe.l E (by rfl) (pm_ne (by rfl) (by rfl)) (by rfl)) (As.nil (CodeTo.call (code_number_spec Gb okb (by exact hl) ?_))))⟩)
  refine As.nil (CodeTo.call (take_top_spec Gb okb (by exact X) fun H' kk X' => ?_))
  exact Exs.nil (Exs.nil (Exs.nil (Exs.nil (k H' kk X'))))
theorem take_code_ro (G : Gr P C.b) (ok : OkA C.A 3) (X : CopyIs σ.H c d hs R) {tag ro : Bool} {l a : Addr} (hl : σ.H l = some (.list [.ref a])) (ha : σ.H a = some (atomO (if ro then "READ-ONLY" else "READ-WRITE")))
    (k : ∀ H', Keep (fun x => x = c) σ.H H' → CopyIs H' c { d with ro := ro } hs R → Φ .none ⟨σ.m, H'⟩) : CodeTo C (.ref 307) [.ref c, .bool tag, .ref l] σ Φ := by
  refine (f_take_code P).call G ok (bind3 (n1 := "copy") (n2 := "is_tagged") (n3 := "code") (fun x y z => by kernel_rfl) (by kernel_rfl) (by kernel_rfl) (by kernel_rfl)) fun b L env Gb okb E => ?_
  refine Exs.cons (Ex.assign rfl E.kind (E.kinds _ _ (by rfl)) E.loc (Ev.call Gb (Pe.ev (Pe.g E Gb (by rfl) (g_code_word P) (by rfl)) ⟨k_code_word P, As.cons (Pe.ev (Pe.l E (by rfl) (by rfl) (by rfl)) (As.nil (CodeTo.call (code_word_spec Gb okb (by exact hl) (by exact ha) (by simp) ?_))))⟩)))
  refine Exs.cons (Ex.ifP (c := false) (Pt.to (Pt.cmp (Pe.l E (by rfl) pm_self (by rfl)) Pe.str CmpTo.eqs (by rfl)) (by cases ro <;> decide)) (fun q => absurd q (by decide)) fun _ => ?_)
  refine Exs.cons (Ex.ifP (c := false) (Pt.to (Pt.cmp (Pe.l E (by rfl) pm_self (by rfl)) Pe.str CmpTo.eqs (by rfl)) (by cases ro <;> decide)) (fun q => absurd q (by decide)) fun _ => ?_)
  refine Exs.cons (Ex.ifP (c := false) (Pt.to (Pt.cmp (Pe.l E (by rfl) pm_self (by rfl)) Pe.str CmpTo.eqs (by rfl)) (by cases ro <;> decide)) (fun q => absurd q (by decide)) fun _ => ?_)
  refine Exs.cons (Ex.ifP (c := true) (Pt.to (Pt.or2 (x := ro) (y := true) (Pt.to (Pt.cmp (Pe.l E (by rfl) pm_self (by rfl)) Pe.str CmpTo.eqs (by rfl)) (by cases ro <;> decide)) fun q => Pt.to (Pt.cmp (Pe.l E (by rfl) pm_self (by rfl)) Pe.str CmpTo.eqs (by rfl)) (by subst q; decide)) (by cases ro <;> rfl)) (fun _ => ?_) fun q => absurd q (by decide))
  refine Exs.cons (Ex.setattr Gb rfl (Pe.ev (Pe.to (y := .bool ro) (Pe.cmp (Pe.l E (by rfl) pm_self (by rfl)) Pe.str CmpTo.eqs (by rfl)) (by cases ro <;> rfl)) ?_))
  refine Pe.ev (Pe.l E (by rfl) (pm_ne (by rfl) (by rfl)) (by rfl)) ⟨c, 218, _, rfl, X.obj, set_218_is_readonly P, le900 (by rfl), ?_⟩
  have kk : Keep (fun x => x = c) σ.H (upd σ.H c (copyO { d with ro := ro })) := Keep.upd rfl
  exact Exs.nil (Exs.nil (Exs.nil (Exs.nil (Exs.nil (k _ kk (X.keepC kk (upd_self _ _ _) rfl (kk.get X.kept X.kc)))))))
end
end Mine
end
section
set_option maxRecDepth 100000
set_option Elab.async false
set_option linter.unusedVariables false
namespace Mine
open PySem PySem.W PySem.Calls PyProof.Rows
def sle (a b : Str) : Prop := ¬ (b.cps.toList < a.cps.toList)
theorem sle_trans {a b c : Str} (h1 : sle a b) (h2 : sle b c) : sle a c := fun h => by
  have h1' := List.not_lt.mp h1
  have h2' := List.not_lt.mp h2
  exact absurd h (List.not_lt.mpr (List.le_trans h1' h2'))
theorem sle_antisymm {a b : Str} (h1 : sle a b) (h2 : sle b a) : a = b := by
  have := List.le_antisymm (List.not_lt.mp h1) (List.not_lt.mp h2)
  cases a; cases b
  simp only [Str.mk.injEq]
  exact Array.toList_inj.mp this
theorem rising_pair : ∀ (r : List Str) (x : Str), risingS x r = true → (x :: r).Pairwise sle
  | [], x, _ => by simp
  | y :: r, x, h => by
    have h' : (!PySem.Spec.ltCps y.cps.toList x.cps.toList) = true ∧ risingS y r = true := by simpa [risingS] using h
    have ih := rising_pair r y h'.2
    have hxy : sle x y := by
      have := h'.1
      rw [ltCps_eq] at this
      simpa [sle] using this
    refine List.Pairwise.cons (fun z hz => ?_) ih
    rcases List.mem_cons.mp hz with rfl | hz
    · exact hxy
    · exact sle_trans hxy ((List.pairwise_cons.mp ih).1 z hz)
theorem sorted_pair {l : List Str} (h : sortedS l = true) : l.Pairwise sle := by
  cases l with
  | nil => exact .nil
  | cons x r => exact rising_pair r x h
theorem pair_uniq : ∀ {a b : List Str}, a.Perm b → a.Pairwise sle → b.Pairwise sle → a = b
  | [], _, p, _, _ => p.nil_eq
  | x :: r, b, p, ha, hb => by
    cases b with
    | nil => exact absurd p.length_eq (by simp)
    | cons y t =>
      have hx : x ∈ y :: t := p.mem_iff.mp (.head _)
      have hy : y ∈ x :: r := p.mem_iff.mpr (.head _)
      have e : x = y := by
        rcases List.mem_cons.mp hx with h | h
        · exact h
        · rcases List.mem_cons.mp hy with h' | h'
          · exact h'.symm
          · exact sle_antisymm ((List.pairwise_cons.mp ha).1 y h') ((List.pairwise_cons.mp hb).1 x h)
      subst e
      rw [pair_uniq (List.Perm.cons_inv p) (List.pairwise_cons.mp ha).2 (List.pairwise_cons.mp hb).2]
theorem IsSorted.uniq {ss a b : List Str} (h1 : IsSorted ss a) (h2 : IsSorted ss b) : a = b := pair_uniq (h1.1.trans h2.1.symm) (sorted_pair h1.2) (sorted_pair h2.2)
end Mine
end
section
set_option maxRecDepth 100000
set_option Elab.async false
set_option linter.unusedVariables false
namespace Mine
open PySem PySem.W PySem.Calls PyProof.Rows

/-! What a fetch tells -/
structure Wd where
  uid : Option Int
  fl : Option (List Str)
  ms : Option Int
structure AtomsAre (H : AH) (as : List Addr) (ns : List Str) : Prop where
  len : as.length = ns.length
  at_ : ∀ (i : Nat) a n, as[i]? = some a → ns[i]? = some n → H a = some (atomO n)
def FlW (H : AH) (es : List (Str × Value)) : Option (List Str) → Prop
  | none => es.lookup ("FLAGS" : Str) = none
  | some ns => ∃ l as, es.lookup ("FLAGS" : Str) = some (.ref l) ∧ H l = some (.list (refs as)) ∧ AtomsAre H as ns ∧ ns.length ≤ 50
def MsW (H : AH) (es : List (Str × Value)) : Option Int → Prop
  | none => es.lookup ("MODSEQ" : Str) = none
  | some m => ∃ l, es.lookup ("MODSEQ" : Str) = some (.ref l) ∧ H l = some (.list [.int m 0])
structure WordsAre (H : AH) (es : List (Str × Value)) (W : Wd) : Prop where
  uid : es.lookup ("UID" : Str) = W.uid.map fun u => .int u 0
  fl : FlW H es W.fl
  ms : MsW H es W.ms
/-- objects that no word holds -/
def NoWord (H : AH) (S : Addr → Prop) : Prop := ∀ x, S x → ∀ o, H x = some o → (∀ t, o ≠ atomO t) ∧ (∀ as, o ≠ .list (refs as)) ∧ ∀ m, o ≠ .list [.int m 0]
theorem AtomsAre.keep {S : Addr → Prop} {H H' : AH} {as : List Addr} {ns : List Str} (X : AtomsAre H as ns) (k : Keep S H H') (h : NoWord H S) : AtomsAre H' as ns := ⟨X.len, fun i a n e1 e2 => k.get (X.at_ i a n e1 e2) fun z => (h _ z _ (X.at_ i a n e1 e2)).1 _ rfl⟩
theorem WordsAre.keep {S : Addr → Prop} {H H' : AH} {es : List (Str × Value)} {W : Wd} (X : WordsAre H es W) (k : Keep S H H') (h : NoWord H S) : WordsAre H' es W := by
  obtain ⟨u, f, m⟩ := X
  obtain ⟨wu, wf, wm⟩ := W
  refine ⟨u, ?_, ?_⟩
  · cases wf with
    | none => exact f
    | some ns =>
      obtain ⟨l, as, e1, e2, e3, e4⟩ := f
      exact ⟨l, as, e1, k.get e2 (fun z => (h _ z _ e2).2.1 _ rfl), e3.keep k h, e4⟩
  · cases wm with
    | none => exact m
    | some n =>
      obtain ⟨l, e1, e2⟩ := m
      exact ⟨l, e1, k.get e2 (fun z => (h _ z _ e2).2.2 _ rfl)⟩
theorem WordsAre.same {H H' : AH} {es : List (Str × Value)} {W : Wd} (X : WordsAre H es W) (k : Same H H') : WordsAre H' es W := X.keep k fun x z => z.elim
def KnowFl : Option (List Str) → Option (List Str) → Option (List Str) → Prop
  | none, a, b => b = a
  | some ns, _, b => ∃ out, IsSorted ns out ∧ b = some out
structure KnowTo (W : Wd) (r r' : Rw) : Prop where
  hid : r'.hid = r.hid
  known : r'.known = W.uid.getD r.known
  fl : KnowFl W.fl r.fl r'.fl
  ms : r'.ms = W.ms.getD (if W.fl.isSome then 0 else r.ms)
theorem KnowTo.uniq {W : Wd} {r a b : Rw} (x : KnowTo W r a) (y : KnowTo W r b) : a = b := by
  have e3 : a.fl = b.fl := by
    have h1 := x.fl; have h2 := y.fl
    cases q : W.fl with
    | none => rw [q] at h1 h2; exact h1.trans h2.symm
    | some ns =>
      rw [q] at h1 h2
      obtain ⟨o1, s1, e1⟩ := h1
      obtain ⟨o2, s2, e2⟩ := h2
      rw [e1, e2, s1.uniq s2]
  have e1 := x.hid.trans y.hid.symm
  have e2 := x.known.trans y.known.symm
  have e4 := x.ms.trans y.ms.symm
  cases a; cases b
  dsimp only at e1 e2 e3 e4
  subst e1 e2 e3 e4
  rfl
section
variable {C : Cx} {env : Env} {σ : St} {value slc : Expr} {pos : Pos}
theorem Pe.itemD {d : Addr} {es : List (Str × Value)} {k : Str} {t : Tok} {v : Value} (ho : Pe C env value σ (.ref d)) (hi : Pe C env slc σ (.str k t)) (hd : σ.H d = some (.dict C.prog C.w es)) (hx : es.lookup k = some v)
    (hs : ∀ o i, subscripted slc false o i = operate [o, i] (getItem o i) := by intro _ _; rfl) : Pe C env (.Subscript value slc pos) σ v := Ev.sub (ho.ev (hi.ev (.dict hd hx ⟨rfl, rfl⟩ hs)))
end
theorem Helds.set {H H' : AH} {hs : List Addr} {R : List Rw} {i : Nat} {h : Addr} {r' : Rw} (X : Helds H hs R) (I : Inj hs) (hi : hs[i]? = some h) (k : Keep (fun x => x = h) H H') (hT : ∀ vs, H h ≠ some (.tup vs)) (h' : HeldAt H' h r') : Helds H' hs (R.set i r') := by
  refine ⟨by rw [List.length_set]; exact X.len, fun j g r e1 e2 => ?_⟩
  rw [List.getElem?_set] at e2
  split at e2
  · rename_i q
    subst q
    split at e2
    · cases e2; rw [hi] at e1; cases e1; exact h'
    · cases e2
  · rename_i q
    refine (X.at_ j g r e1 e2).keep k (fun x vs e z => hT vs (z ▸ e)) fun z => ?_
    subst z
    exact q (I i j _ hi e1)
section
variable {P : Params} {C : Cx} {σ : St} {Φ : Value → St → Prop} {c : Addr} {d : CopyD} {hs : List Addr} {R : List Rw}
theorem take_fetch_spec (G : Gr P C.b) (ok : OkA C.A 4) (X : CopyIs σ.H c d hs R) (I : Inj hs) {i : Nat} {h T : Addr} {r : Rw} {vs : List Value} {es : List (Str × Value)} {W : Wd} (hh : hs[i]? = some h) (hr : R[i]? = some r) (hT : σ.H T = some (.tup vs)) (hP : PairsAt σ.H vs es) (hnd : (es.map (·.1)).Nodup) (hz : es.length ≤ 3) (hW : WordsAre σ.H es W)
    (hq : ∀ uid, W.uid = some uid → ∀ (j : Nat) r, R[j]? = some r → r.known = 0 ∨ (0 < r.known ∧ (j < i → r.known < uid) ∧ (j = i → r.known = uid) ∧ (i < j → uid < r.known)))
    (k : ∀ H' r', Keep (fun x => x = h) σ.H H' → (∀ x, H' x = none → σ.H x = none) → KnowTo W r r' → CopyIs H' c d hs (R.set i r') → Φ .none ⟨σ.m, H'⟩) : CodeTo C (.ref 239) [.ref c, .int (i + 1) 0, .ref T] σ Φ := by
  refine (f_take_fetch P).call G ok (bind3 (n1 := "copy") (n2 := "number") (n3 := "pairs") (fun x y z => by kernel_rfl) (by kernel_rfl) (by kernel_rfl) (by kernel_rfl)) fun b L env Gb okb E => ?_
  have hil := (List.getElem?_eq_some_iff.mp hr).1
  have hrow := X.helds.at_ i h r hh hr
  have hT0 : ∀ vs, σ.H h ≠ some (.tup vs) := fun vs z => by obtain ⟨fv, _, ho⟩ := hrow; rw [z] at ho; cases ho
  refine Exs.cons (Ex.assign rfl E.kind (E.kinds _ _ (by rfl)) E.loc (Ev.meth Gb (Pe.ev (Pe.l E (by rfl) (by rfl) (by rfl)) ⟨c, 218, _, 198, rfl, X.obj, m_row P, by rfl, ?_⟩)))
  refine As.cons (Pe.ev (Pe.l E (by rfl) (by rfl) (by rfl)) (As.nil (CodeTo.call (row_spec Gb (by exact okb.le (by omega)) (by exact X) hh ?_))))
  refine Exs.cons (Ex.assign rfl E.kind (E.kinds _ _ (by rfl)) E.loc (Ev.call Gb (Pe.ev (nm_dict E Gb (by rfl)) ⟨.inr (.inl ⟨_, rfl⟩), ?_⟩)))
  refine As.cons (Pe.ev (Pe.l E (by rfl) (pm_ne (by rfl) (by rfl)) (by rfl)) (As.nil (CallTo.dictT okb.hd Gb (by exact hT) (by exact hP) hnd (by omega) fun dd hdd => ?_)))
  dsimp only at hdd
  show Exs (C.call env b L) env _ ⟨putM (putM (fun x => List.lookup x [(("copy" : Str), Value.ref c), ("number", .int (i + 1) 0), ("pairs", .ref T)].reverse) "row" (.ref h)) "words" (.ref dd), upd σ.H dd (.dict C.prog C.w es)⟩ _
  have k0 : Same σ.H (upd σ.H dd (.dict C.prog C.w es)) := same_new hdd
  have hD : upd σ.H dd (.dict C.prog C.w es) dd = some (.dict C.prog C.w es) := upd_self _ _ _
  generalize upd σ.H dd (.dict C.prog C.w es) = H2 at k0 hD
  have hhd : h ≠ dd := fun z => by obtain ⟨fv, _, ho⟩ := hrow; rw [z, hdd] at ho; cases ho
  have X2 := X.same k0
  have W2 := hW.same k0
  have hrow2 := hrow.same k0
  have hT2 : ∀ x vs, H2 x = some (.tup vs) → ¬ x = h := fun x vs q z => by obtain ⟨fv, _, ho⟩ := hrow2; rw [← z, q] at ho; cases ho
  have NW : NoWord H2 (fun x => x = h) := by
    obtain ⟨fv, _, ho⟩ := hrow2
    intro x z o q
    rw [z, ho] at q
    cases q
    exact ⟨by simp [heldO, atomO], by simp [heldO], by simp [heldO]⟩
  have hnw : ∀ {H' : AH}, Keep (fun x => x = h) H2 H' → WordsAre H' es W := fun kk => W2.keep kk NW
  have hdd' : ∀ {H' : AH}, Keep (fun x => x = h) H2 H' → H' dd = some (.dict C.prog C.w es) := fun kk => kk.get hD (fun z => hhd z.symm)
  -- the uid
  refine Exs.cons (Ex.mono (Φ := fun f σ' => f = .next ∧ σ'.m = putM (putM (fun x => List.lookup x [(("copy" : Str), Value.ref c), ("number", .int (i + 1) 0), ("pairs", .ref T)].reverse) "row" (.ref h)) "words" (.ref dd) ∧ Keep (fun x => x = h) H2 σ'.H ∧ HeldAt σ'.H h { r with known := W.uid.getD r.known }) ?_ ?_)
  · refine Ex.ifP (c := W.uid.isSome) (Pt.to (Pt.cmpH Pe.str (Pe.l E (by rfl) pm_self (by rfl)) (CmpH.inDict hD) (by rfl)) (by rw [W2.uid, Option.isSome_map])) (fun q => ?_) fun q => ?_
    · obtain ⟨u, hu⟩ := Option.isSome_iff_exists.mp q
      have hlook : es.lookup ("UID" : Str) = some (.int u 0) := by rw [W2.uid, hu]; rfl
      refine Exs.cons (Ex.expr ?_ E.quiet rfl)
      refine Ev.call Gb (Pe.ev (Pe.g E Gb (by rfl) (g_check_uid P) (by rfl)) ⟨k_check_uid P, ?_⟩)
      refine As.cons (Pe.ev (Pe.l E (by rfl) (pm_ne (by rfl) (pq_ne (by rfl) (by rfl))) (by rfl)) (As.cons (Pe.ev (Pe.l E (by rfl) (pm_ne (by rfl) (pq_ne (by rfl) (by rfl))) (by rfl)) (As.cons (Pe.ev (Pe.itemD (Pe.l E (by rfl) pm_self (by rfl)) Pe.str hD hlook) (As.nil (CodeTo.call ?_)))))))
      refine check_uid_spec Gb (by exact okb.le (by omega)) (by exact X2) hil (hq u hu) fun H3 k3 => ?_
      have hrow3 := hrow2.same k3
      obtain ⟨fv, hf, ho⟩ := hrow3
      refine Exs.cons (Ex.setattr Gb rfl (Pe.ev (Pe.itemD (Pe.l E (by rfl) pm_self (by rfl)) Pe.str (k3.at hD) hlook) (Pe.ev (Pe.l E (by rfl) (pm_ne (by rfl) putM_self) (by rfl)) ⟨h, 168, _, rfl, ho, set_168_uid P, le900 (by rfl), ?_⟩)))
      refine Exs.nil ⟨rfl, rfl, (Same.weak k3).trans (Keep.upd rfl), fv, hf.mono fun x ws e => ?_, ?_⟩
      · dsimp only
        rw [upd_ne (fun z => by rw [z, ho] at e; cases e)]; exact e
      · rw [hu]; exact upd_self _ _ _
    · have hn : W.uid = none := by simpa using q
      refine Exs.nil ⟨rfl, rfl, Keep.refl, ?_⟩
      rw [hn]; exact hrow2
  rintro f ⟨m3, H3⟩ ⟨rfl, em, k3, hrow3⟩
  dsimp only at em k3 hrow3
  subst em
  -- the flags
  refine Exs.cons (Ex.mono (Φ := fun f σ' => f = .next ∧ σ'.m = putM (putM (fun x => List.lookup x [(("copy" : Str), Value.ref c), ("number", .int (i + 1) 0), ("pairs", .ref T)].reverse) "row" (.ref h)) "words" (.ref dd) ∧ Keep (fun x => x = h) H2 σ'.H ∧ ∃ fl', KnowFl W.fl r.fl fl' ∧ HeldAt σ'.H h { r with known := W.uid.getD r.known, fl := fl', ms := if W.fl.isSome then 0 else r.ms }) ?_ ?_)
  · have W3 := hnw k3
    have hfl := W3.fl
    cases hwf : W.fl with
    | none =>
      rw [hwf] at hfl
      refine Ex.ifP (c := false) (Pt.to (Pt.cmpH Pe.str (Pe.l E (by rfl) pm_self (by rfl)) (CmpH.inDict (hdd' k3)) (by rfl)) (by rw [show es.lookup ("FLAGS" : Str) = none from hfl]; rfl)) (fun q => absurd q (by decide)) fun q => ?_
      exact Exs.nil ⟨rfl, rfl, k3, r.fl, rfl, hrow3⟩
    | some ns =>
      rw [hwf] at hfl
      obtain ⟨l, as, e1, e2, e3, e4⟩ := hfl
      refine Ex.ifP (c := true) (Pt.to (Pt.cmpH Pe.str (Pe.l E (by rfl) pm_self (by rfl)) (CmpH.inDict (hdd' k3)) (by rfl)) (by rw [e1]; rfl)) (fun _ => ?_) fun q => absurd q (by decide)
      refine Exs.cons (Ex.setattr Gb rfl (Ev.call Gb (Pe.ev (nm_tuple E Gb (by rfl)) ⟨.inr (.inl ⟨_, rfl⟩), As.cons ?_⟩)))
      refine Ev.call Gb (Pe.ev (nm_sorted E Gb (by rfl)) ⟨.inl ⟨_, rfl⟩, As.cons ?_⟩)
      refine Ev.compPL (C := C.call env b L) Gb okb.hd [("atom", .local)] E (cl := []) (Nat.zero_le _) rfl (by decide) rfl (by decide) (by rfl) (by rfl) ?_
      refine Pe.ev (Pe.itemD (Pe.l E (by rfl) pm_self (by rfl)) Pe.str (hdd' k3) e1) ⟨l, refs as, fun j => (ns[j]?).map fun x => .str x 0, rfl, e2, len_k (by rw [refs_len, e3.len]; omega), fun b' L' F j v m env' Gb' Ec hv => ?_, fun n hn => ?_⟩
      · obtain ⟨a, ha, rfl⟩ := refs_get hv
        have hj := (List.getElem?_eq_some_iff.mp ha).1
        obtain ⟨x, hx⟩ : ∃ x, ns[j]? = some x := ⟨ns[j]'(e3.len ▸ hj), by simp [e3.len ▸ hj]⟩
        dsimp only
        rw [hx]
        exact PureElt.one (Pe.attr Gb' (Pe.lm Ec (by rfl) (by rfl)) (e3.at_ j a x ha hx) (get_132_text P) (by rfl) (by rfl))
      · rw [refs_len, e3.len, filterMap_map]
        refine As.nil (CallTo.sorted (ss := ns) (upd_self _ _ _) (by omega) fun out a hs ha => As.nil (CallTo.tuple (upd_self _ _ _) (len_k ?_) fun t ht => ?_))
        · simp only [strVals, List.length_map, hs.1.length_eq]; omega
        have ks : Same H3 (upd (upd (upd H3 n (.list (strVals ns))) a (.list (strVals out))) t (.tup (strVals out))) := ((same_new hn).trans (same_new ha)).trans (same_new ht)
        obtain ⟨fv, hf, ho⟩ := hrow3
        have ho3 := ks.at ho
        refine Pe.ev (Pe.l E (by rfl) (pm_ne (by rfl) putM_self) (by rfl)) ⟨h, 168, _, rfl, ho3, set_168_flags P, le900 (by rfl), ?_⟩
        refine Exs.cons (Ex.setattr Gb rfl (Pe.ev Pe.int (Pe.ev (Pe.l E (by rfl) (pm_ne (by rfl) putM_self) (by rfl)) ⟨h, 168, _, rfl, upd_self _ _ _, set_168_modseq P, le900 (by rfl), ?_⟩)))
        rw [upd_upd]
        have hth : t ≠ h := fun z => by
          have := ((same_new (o := .list (strVals ns)) hn).trans (same_new (o := .list (strVals out)) ha)).at ho
          have h9 : upd (upd H3 n (.list (strVals ns))) a (.list (strVals out)) t = none := ht
          rw [z] at h9; dsimp only at this; rw [this] at h9; cases h9
        refine Exs.nil ⟨rfl, rfl, (k3.trans (Same.weak ks)).trans (Keep.upd rfl), some out, ⟨out, hs, rfl⟩, .ref t, ⟨t, rfl, ?_⟩, upd_self _ _ _⟩
        show upd _ h _ t = _
        rw [upd_ne hth]; exact upd_self _ _ _
  rintro f ⟨m4, H4⟩ ⟨rfl, em, k4, fl', hfl', hrow4⟩
  dsimp only at em k4 hrow4
  subst em
  -- the modseq
  have fin : ∀ (H' : AH) (ms' : Int), Keep (fun x => x = h) H2 H' → ms' = W.ms.getD (if W.fl.isSome then 0 else r.ms) → HeldAt H' h { r with known := W.uid.getD r.known, fl := fl', ms := ms' } → Φ .none ⟨σ.m, H'⟩ := fun H' ms' kk e hr' => by
    have k2 : Keep (fun x => x = h) σ.H H' := (Same.weak k0).trans kk
    refine k H' { r with known := W.uid.getD r.known, fl := fl', ms := ms' } k2 (fun x hx => k2.none (fun y z q => ?_) x hx) ⟨rfl, rfl, hfl', e⟩ ⟨?_, ?_, ?_, X.helds.set I hh k2 hT0 hr', by rw [List.length_set]; exact X.small⟩
    · obtain ⟨fv, _, ho⟩ := hr'
      rw [z, ho] at q; cases q
    · exact k2.get X.obj fun z => by obtain ⟨fv, _, ho⟩ := hrow; rw [← z, X.obj] at ho; cases ho
    · exact k2.get X.rows fun z => by obtain ⟨fv, _, ho⟩ := hrow; rw [← z, X.rows] at ho; cases ho
    · exact k2.get X.kept fun z => by obtain ⟨fv, _, ho⟩ := hrow; rw [← z, X.kept] at ho; cases ho
  have W4 := hnw k4
  have hms := W4.ms
  cases hwm : W.ms with
  | none =>
    rw [hwm] at hms
    refine Exs.cons (Ex.ifP (c := false) (Pt.to (Pt.cmpH Pe.str (Pe.l E (by rfl) pm_self (by rfl)) (CmpH.inDict (hdd' k4)) (by rfl)) (by rw [show es.lookup ("MODSEQ" : Str) = none from hms]; rfl)) (fun q => absurd q (by decide)) fun q => Exs.nil (Exs.nil ?_))
    exact fin H4 _ k4 (by rw [hwm]; rfl) hrow4
  | some mm =>
    rw [hwm] at hms
    obtain ⟨l, e1, e2⟩ := hms
    obtain ⟨fv, hf, ho⟩ := hrow4
    refine Exs.cons (Ex.ifP (c := true) (Pt.to (Pt.cmpH Pe.str (Pe.l E (by rfl) pm_self (by rfl)) (CmpH.inDict (hdd' k4)) (by rfl)) (by rw [e1]; rfl)) (fun _ => ?_) fun q => absurd q (by decide))
    refine Exs.cons (Ex.setattr Gb rfl (Pe.ev (Pe.item (Pe.itemD (Pe.l E (by rfl) pm_self (by rfl)) Pe.str (hdd' k4) e1) Pe.int e2 (by decide) (by decide) (by rfl)) (Pe.ev (Pe.l E (by rfl) (pm_ne (by rfl) putM_self) (by rfl)) ⟨h, 168, _, rfl, ho, set_168_modseq P, le900 (by rfl), Exs.nil (Exs.nil ?_)⟩)))
    refine fin _ mm (k4.trans (Keep.upd rfl)) (by rw [hwm]; rfl) ⟨fv, hf.mono fun x ws e => ?_, upd_self _ _ _⟩
    dsimp only
    rw [upd_ne (fun z => by rw [z, ho] at e; cases e)]; exact e
end
end Mine
end
section
set_option maxRecDepth 100000
set_option Elab.async false
set_option linter.unusedVariables false
namespace Mine
open PySem PySem.W PySem.Calls PyProof.Rows
section
variable {P : Params} {C : Cx} {σ : St} {Φ : Value → St → Prop} {c A : Addr} {d : CopyD} {hs : List Addr} {R : List Rw} {top : Int}
theorem take_a_exists (G : Gr P C.b) (ok : OkA C.A 5) (X : CopyIs σ.H c d hs R) {N : List Rw} (hN : ∀ r ∈ N, Blank r) (hz : R.length + N.length ≤ 1000) (hA : σ.H A = some (.tup [.str "exists" 0, .int (R.length + N.length : Nat) 0]))
    (k : ∀ H' r' hs', Keep (fun x => x = c) σ.H H' → σ.H r' = none → (∀ h ∈ hs', σ.H h = none) → hs'.Nodup → CopyIs H' c { d with rows := r' } (hs ++ hs') (R ++ N) → Φ .none ⟨σ.m, H'⟩) : CodeTo C (.ref 215) [.ref c, .ref A] σ Φ := by
  refine (f_take P).call G ok (bind2 (n1 := "self") (n2 := "answer") (fun x y => by kernel_rfl) (by kernel_rfl) (by kernel_rfl)) fun b L env Gb okb E => ?_
  refine Exs.cons (Ex.assign rfl E.kind (E.kinds _ _ (by rfl)) E.loc (Pe.ev (Pe.itemT (Pe.l E (by rfl) (by rfl) (by rfl)) Pe.int (by exact hA) (by decide) (by decide) (by rfl) (by rfl)) ?_))
  refine Exs.cons (Ex.ifP (c := true) (Pt.cmp (Pe.l E (by rfl) pm_self (by rfl)) Pe.str CmpTo.eqs (by rfl)) (fun _ => ?_) fun q => absurd q (by decide))
  refine Exs.cons (Ex.expr ?_ E.quiet rfl)
  refine Ev.call Gb (Pe.ev (Pe.g E Gb (by rfl) (g_take_exists P) (by rfl)) ⟨k_take_exists P, As.cons (Pe.ev (Pe.l E (by rfl) (pm_ne (by rfl) (by rfl)) (by rfl)) (As.cons (Pe.ev (Pe.itemT (Pe.l E (by rfl) (pm_ne (by rfl) (by rfl)) (by rfl)) Pe.int (by exact hA) (by decide) (by decide) (by rfl) (by rfl)) (As.nil (CodeTo.call ?_)))))⟩)
  refine take_exists_spec Gb okb (by exact X) hN hz fun H' r' hs' k1 k2 k3 k4 k5 => ?_
  exact Exs.nil (Exs.nil (k H' r' hs' k1 k2 k3 k4 k5))
theorem take_a_expunge (G : Gr P C.b) (ok : OkA C.A 5) (X : CopyIs σ.H c d hs R) {i : Nat} (hi : i < R.length) (hA : σ.H A = some (.tup [.str "expunge" 0, .int (i + 1) 0]))
    (k : ∀ H' r', Keep (fun x => x = c) σ.H H' → σ.H r' = none → CopyIs H' c { d with rows := r' } (hs.eraseIdx i) (R.eraseIdx i) → Φ .none ⟨σ.m, H'⟩) : CodeTo C (.ref 215) [.ref c, .ref A] σ Φ := by
  have hlen := X.lenR
  have hz1 := X.small
  obtain ⟨g, hg⟩ : ∃ g, hs[i]? = some g := ⟨_, List.getElem?_eq_getElem (by rw [X.helds.len]; exact hi)⟩
  refine (f_take P).call G ok (bind2 (n1 := "self") (n2 := "answer") (fun x y => by kernel_rfl) (by kernel_rfl) (by kernel_rfl)) fun b L env Gb okb E => ?_
  refine Exs.cons (Ex.assign rfl E.kind (E.kinds _ _ (by rfl)) E.loc (Pe.ev (Pe.itemT (Pe.l E (by rfl) (by rfl) (by rfl)) Pe.int (by exact hA) (by decide) (by decide) (by rfl) (by rfl)) ?_))
  refine Exs.cons (Ex.ifP (c := false) (Pt.cmp (Pe.l E (by rfl) pm_self (by rfl)) Pe.str CmpTo.eqs (by rfl)) (fun q => absurd q (by decide)) fun _ => ?_)
  refine Exs.cons (Ex.ifP (c := true) (Pt.cmp (Pe.l E (by rfl) pm_self (by rfl)) Pe.str CmpTo.eqs (by rfl)) (fun _ => ?_) fun q => absurd q (by decide))
  refine Exs.cons (Ex.expr ?_ E.quiet rfl)
  refine Ev.meth Gb (Pe.ev (Pe.l E (by rfl) (pm_ne (by rfl) (by rfl)) (by rfl)) ⟨c, 218, _, 198, rfl, X.obj, m_row P, by rfl, As.cons (Pe.ev (Pe.itemT (Pe.l E (by rfl) (pm_ne (by rfl) (by rfl)) (by rfl)) Pe.int (by exact hA) (by decide) (by decide) (by rfl) (by rfl)) (As.nil (CodeTo.call ?_)))⟩)
  refine row_spec Gb (by exact okb.le (by omega)) (by exact X) hg ?_
  refine Exs.cons (Ex.setattr Gb rfl (Ev.addl ?_))
  refine Ev.upto (n := i) (rows_pe Gb (Pe.l E (by rfl) (pm_ne (by rfl) (by rfl)) (by rfl)) (by exact X)) X.rows (Pe.binop (Pe.itemT (Pe.l E (by rfl) (pm_ne (by rfl) (by rfl)) (by rfl)) Pe.int (by exact hA) (by decide) (by decide) (by rfl) (by rfl)) Pe.int OpTo.sub) (by omega) (by omega) fun a ha => ?_
  have k1 : Same σ.H (upd σ.H a (.list ((refs hs).take i))) := same_new ha
  have X1 := X.same k1
  refine Ev.from_ (n := i + 1) (rows_pe Gb (Pe.l E (by rfl) (pm_ne (by rfl) (by rfl)) (by rfl)) (by exact X1)) X1.rows (Pe.itemT (Pe.l E (by rfl) (pm_ne (by rfl) (by rfl)) (by rfl)) Pe.int (k1.at hA) (by decide) (by decide) (by rfl) (by rfl)) (by omega) (by omega) fun a2 ha2 => ?_
  have k2 := same_new (o := .list ((refs hs).drop (i + 1))) ha2
  refine ⟨a, a2, _, _, rfl, rfl, k2.at (upd_self _ _ _), upd_self _ _ _, len_k (by rw [List.length_take, List.length_drop]; omega), fun r' hr' => ?_⟩
  have k3 := same_new (o := .list ((refs hs).take i ++ (refs hs).drop (i + 1))) hr'
  have k123 : Same σ.H _ := (k1.trans k2).trans k3
  refine Pe.ev (Pe.l E (by rfl) (pm_ne (by rfl) (by rfl)) (by rfl)) ⟨c, 218, _, rfl, k123.at X.obj, set_218_rows P, le900 (by rfl), ?_⟩
  have kk : Keep (fun x => x = c) σ.H (upd (upd (upd (upd σ.H a (.list ((refs hs).take i))) a2 (.list ((refs hs).drop (i + 1)))) r' (.list ((refs hs).take i ++ (refs hs).drop (i + 1)))) c (copyO { d with rows := r' })) := (Same.weak k123).put (.inr rfl)
  have hrc : r' ≠ c := fun z => by
    have := (k1.trans k2).at X.obj
    rw [z] at hr'; dsimp only at hr'; rw [this] at hr'; cases hr'
  refine Exs.nil (Exs.nil (Exs.nil (k _ r' kk (Same.none (k1.trans k2) hr') ⟨upd_self _ _ _, ?_, kk.get X.kept X.kc, (X.helds.keepC X.obj kk).erase hi, by rw [List.length_eraseIdx]; split <;> omega⟩)))
  dsimp only
  rw [upd_ne hrc, upd_self, ← List.eraseIdx_eq_take_drop_succ, refs_erase]
theorem take_a_vanished (G : Gr P C.b) (ok : OkA C.A 7) (X : CopyIs σ.H c d hs R) (I : Inj hs) {us : List Int} {S : Addr} {vs : List Value} (hS : σ.H S = some (.tup vs)) (hP : IntPairs σ.H vs (us.map fun u => (u, u))) (hAs : Asc (us.map fun u => (u, u))) (hne : us ≠ []) (hul : us.length ≤ 3) (hur : us.length ≤ R.length) (htop : top ≤ 50000)
    {Rs : Nat → List Rw} (h0 : Rs 0 = R) (step : ∀ (i : Nat) u, us[i]? = some u → Good (Rs i) top ∧ ∃ a p, Gone (Rs i) u a p (Rs (i + 1))) (hA : σ.H A = some (.tup [.str "vanished" 0, .ref S, .bool false]))
    (k : ∀ H' r' hs', Keep (fun x => x = c ∨ x = d.rows) σ.H H' → (∀ x, H' x = none → σ.H x = none) → σ.H r' = none ∨ r' = d.rows → Inj hs' → (∀ h ∈ hs', h ∈ hs ∨ σ.H h = none) → CopyIs H' c { d with rows := r' } hs' (Rs us.length) → Φ .none ⟨σ.m, H'⟩) : CodeTo C (.ref 215) [.ref c, .ref A] σ Φ := by
  refine (f_take P).call G ok (bind2 (n1 := "self") (n2 := "answer") (fun x y => by kernel_rfl) (by kernel_rfl) (by kernel_rfl)) fun b L env Gb okb E => ?_
  refine Exs.cons (Ex.assign rfl E.kind (E.kinds _ _ (by rfl)) E.loc (Pe.ev (Pe.itemT (Pe.l E (by rfl) (by rfl) (by rfl)) Pe.int (by exact hA) (by decide) (by decide) (by rfl) (by rfl)) ?_))
  refine Exs.cons (Ex.ifP (c := false) (Pt.cmp (Pe.l E (by rfl) pm_self (by rfl)) Pe.str CmpTo.eqs (by rfl)) (fun q => absurd q (by decide)) fun _ => ?_)
  refine Exs.cons (Ex.ifP (c := false) (Pt.cmp (Pe.l E (by rfl) pm_self (by rfl)) Pe.str CmpTo.eqs (by rfl)) (fun q => absurd q (by decide)) fun _ => ?_)
  refine Exs.cons (Ex.ifP (c := true) (Pt.cmp (Pe.l E (by rfl) pm_self (by rfl)) Pe.str CmpTo.eqs (by rfl)) (fun _ => ?_) fun q => absurd q (by decide))
  refine Exs.cons (Ex.expr ?_ E.quiet rfl)
  refine Ev.call Gb (Pe.ev (Pe.g E Gb (by rfl) (g_take_vanished P) (by rfl)) ⟨k_take_vanished P, As.cons (Pe.ev (Pe.l E (by rfl) (pm_ne (by rfl) (by rfl)) (by rfl)) (As.cons (Pe.ev (Pe.itemT (Pe.l E (by rfl) (pm_ne (by rfl) (by rfl)) (by rfl)) Pe.int (by exact hA) (by decide) (by decide) (by rfl) (by rfl)) (As.cons (Pe.ev (Pe.itemT (Pe.l E (by rfl) (pm_ne (by rfl) (by rfl)) (by rfl)) Pe.int (by exact hA) (by decide) (by decide) (by rfl) (by rfl)) (As.nil (CodeTo.call ?_)))))))⟩)
  refine take_vanished_spec Gb okb (by exact X) I (by exact hS) (by exact hP) hAs hne hul hur htop h0 step fun H' r' hs' k1 k2 k3 k4 k5 k6 => ?_
  exact Exs.nil (Exs.nil (Exs.nil (Exs.nil (k H' r' hs' k1 k2 k3 k4 k5 k6))))
theorem take_a_kept (G : Gr P C.b) (ok : OkA C.A 5) (X : CopyIs σ.H c d hs R) {S : Addr} (hA : σ.H A = some (.tup [.str "vanished" 0, .ref S, .bool true]))
    (k : ∀ H' kd, Keep (fun x => x = c) σ.H H' → σ.H kd = none → CopyIs H' c { d with kept := kd } hs R → Φ .none ⟨σ.m, H'⟩) : CodeTo C (.ref 215) [.ref c, .ref A] σ Φ := by
  refine (f_take P).call G ok (bind2 (n1 := "self") (n2 := "answer") (fun x y => by kernel_rfl) (by kernel_rfl) (by kernel_rfl)) fun b L env Gb okb E => ?_
  refine Exs.cons (Ex.assign rfl E.kind (E.kinds _ _ (by rfl)) E.loc (Pe.ev (Pe.itemT (Pe.l E (by rfl) (by rfl) (by rfl)) Pe.int (by exact hA) (by decide) (by decide) (by rfl) (by rfl)) ?_))
  refine Exs.cons (Ex.ifP (c := false) (Pt.cmp (Pe.l E (by rfl) pm_self (by rfl)) Pe.str CmpTo.eqs (by rfl)) (fun q => absurd q (by decide)) fun _ => ?_)
  refine Exs.cons (Ex.ifP (c := false) (Pt.cmp (Pe.l E (by rfl) pm_self (by rfl)) Pe.str CmpTo.eqs (by rfl)) (fun q => absurd q (by decide)) fun _ => ?_)
  refine Exs.cons (Ex.ifP (c := true) (Pt.cmp (Pe.l E (by rfl) pm_self (by rfl)) Pe.str CmpTo.eqs (by rfl)) (fun _ => ?_) fun q => absurd q (by decide))
  refine Exs.cons (Ex.expr ?_ E.quiet rfl)
  refine Ev.call Gb (Pe.ev (Pe.g E Gb (by rfl) (g_take_vanished P) (by rfl)) ⟨k_take_vanished P, As.cons (Pe.ev (Pe.l E (by rfl) (pm_ne (by rfl) (by rfl)) (by rfl)) (As.cons (Pe.ev (Pe.itemT (Pe.l E (by rfl) (pm_ne (by rfl) (by rfl)) (by rfl)) Pe.int (by exact hA) (by decide) (by decide) (by rfl) (by rfl)) (As.cons (Pe.ev (Pe.itemT (Pe.l E (by rfl) (pm_ne (by rfl) (by rfl)) (by rfl)) Pe.int (by exact hA) (by decide) (by decide) (by rfl) (by rfl)) (As.nil (CodeTo.call ?_)))))))⟩)
  refine take_kept_spec Gb okb (by exact X) fun H' kd k1 k2 k3 => ?_
  exact Exs.nil (Exs.nil (Exs.nil (Exs.nil (k H' kd k1 k2 k3))))
theorem take_a_fetch (G : Gr P C.b) (ok : OkA C.A 5) (X : CopyIs σ.H c d hs R) (I : Inj hs) {i : Nat} {h T : Addr} {r : Rw} {vs : List Value} {es : List (Str × Value)} {W : Wd} (hh : hs[i]? = some h) (hr : R[i]? = some r) (hT : σ.H T = some (.tup vs)) (hP : PairsAt σ.H vs es) (hnd : (es.map (·.1)).Nodup) (hz : es.length ≤ 3) (hW : WordsAre σ.H es W)
    (hq : ∀ uid, W.uid = some uid → ∀ (j : Nat) r, R[j]? = some r → r.known = 0 ∨ (0 < r.known ∧ (j < i → r.known < uid) ∧ (j = i → r.known = uid) ∧ (i < j → uid < r.known))) (hA : σ.H A = some (.tup [.str "fetch" 0, .int (i + 1) 0, .ref T]))
    (k : ∀ H' r', Keep (fun x => x = h) σ.H H' → (∀ x, H' x = none → σ.H x = none) → KnowTo W r r' → CopyIs H' c d hs (R.set i r') → Φ .none ⟨σ.m, H'⟩) : CodeTo C (.ref 215) [.ref c, .ref A] σ Φ := by
  refine (f_take P).call G ok (bind2 (n1 := "self") (n2 := "answer") (fun x y => by kernel_rfl) (by kernel_rfl) (by kernel_rfl)) fun b L env Gb okb E => ?_
  refine Exs.cons (Ex.assign rfl E.kind (E.kinds _ _ (by rfl)) E.loc (Pe.ev (Pe.itemT (Pe.l E (by rfl) (by rfl) (by rfl)) Pe.int (by exact hA) (by decide) (by decide) (by rfl) (by rfl)) ?_))
  refine Exs.cons (Ex.ifP (c := false) (Pt.cmp (Pe.l E (by rfl) pm_self (by rfl)) Pe.str CmpTo.eqs (by rfl)) (fun q => absurd q (by decide)) fun _ => ?_)
  refine Exs.cons (Ex.ifP (c := false) (Pt.cmp (Pe.l E (by rfl) pm_self (by rfl)) Pe.str CmpTo.eqs (by rfl)) (fun q => absurd q (by decide)) fun _ => ?_)
  refine Exs.cons (Ex.ifP (c := false) (Pt.cmp (Pe.l E (by rfl) pm_self (by rfl)) Pe.str CmpTo.eqs (by rfl)) (fun q => absurd q (by decide)) fun _ => ?_)
  refine Exs.cons (Ex.ifP (c := true) (Pt.cmp (Pe.l E (by rfl) pm_self (by rfl)) Pe.str CmpTo.eqs (by rfl)) (fun _ => ?_) fun q => absurd q (by decide))
  refine Exs.cons (Ex.expr ?_ E.quiet rfl)
  refine Ev.call Gb (Pe.ev (Pe.g E Gb (by rfl) (g_take_fetch P) (by rfl)) ⟨k_take_fetch P, As.cons (Pe.ev (Pe.l E (by rfl) (pm_ne (by rfl) (by rfl)) (by rfl)) (As.cons (Pe.ev (Pe.itemT (Pe.l E (by rfl) (pm_ne (by rfl) (by rfl)) (by rfl)) Pe.int (by exact hA) (by decide) (by decide) (by rfl) (by rfl)) (As.cons (Pe.ev (Pe.itemT (Pe.l E (by rfl) (pm_ne (by rfl) (by rfl)) (by rfl)) Pe.int (by exact hA) (by decide) (by decide) (by rfl) (by rfl)) (As.nil (CodeTo.call ?_)))))))⟩)
  refine take_fetch_spec Gb okb (by exact X) I hh hr (by exact hT) (by exact hP) hnd hz (by exact hW) hq fun H' r' k1 k2 k3 k4 => ?_
  exact Exs.nil (Exs.nil (Exs.nil (Exs.nil (Exs.nil (k H' r' k1 k2 k3 k4)))))
theorem take_a_flags (G : Gr P C.b) (ok : OkA C.A 5) (X : CopyIs σ.H c d hs R) {l : Addr} {ss : List Str} (hl : σ.H l = some (.list (strVals ss))) (hz : ss.length ≤ 100) (hA : σ.H A = some (.tup [.str "flags" 0, .ref l]))
    (k : ∀ H' t, H' t = some (.tup (strVals ss)) → CopyIs H' c { d with names := t } hs R → Φ .none ⟨σ.m, H'⟩) : CodeTo C (.ref 215) [.ref c, .ref A] σ Φ := by
  refine (f_take P).call G ok (bind2 (n1 := "self") (n2 := "answer") (fun x y => by kernel_rfl) (by kernel_rfl) (by kernel_rfl)) fun b L env Gb okb E => ?_
  refine Exs.cons (Ex.assign rfl E.kind (E.kinds _ _ (by rfl)) E.loc (Pe.ev (Pe.itemT (Pe.l E (by rfl) (by rfl) (by rfl)) Pe.int (by exact hA) (by decide) (by decide) (by rfl) (by rfl)) ?_))
  refine Exs.cons (Ex.ifP (c := false) (Pt.cmp (Pe.l E (by rfl) pm_self (by rfl)) Pe.str CmpTo.eqs (by rfl)) (fun q => absurd q (by decide)) fun _ => ?_)
  refine Exs.cons (Ex.ifP (c := false) (Pt.cmp (Pe.l E (by rfl) pm_self (by rfl)) Pe.str CmpTo.eqs (by rfl)) (fun q => absurd q (by decide)) fun _ => ?_)
  refine Exs.cons (Ex.ifP (c := false) (Pt.cmp (Pe.l E (by rfl) pm_self (by rfl)) Pe.str CmpTo.eqs (by rfl)) (fun q => absurd q (by decide)) fun _ => ?_)
  refine Exs.cons (Ex.ifP (c := false) (Pt.cmp (Pe.l E (by rfl) pm_self (by rfl)) Pe.str CmpTo.eqs (by rfl)) (fun q => absurd q (by decide)) fun _ => ?_)
  refine Exs.cons (Ex.ifP (c := true) (Pt.cmp (Pe.l E (by rfl) pm_self (by rfl)) Pe.str CmpTo.eqs (by rfl)) (fun _ => ?_) fun q => absurd q (by decide))
  refine Exs.cons (Ex.setattr Gb rfl (Ev.call Gb (Pe.ev (nm_tuple E Gb (by rfl)) ⟨.inr (.inl ⟨_, rfl⟩), As.cons (Pe.ev (Pe.itemT (Pe.l E (by rfl) (pm_ne (by rfl) (by rfl)) (by rfl)) Pe.int (by exact hA) (by decide) (by decide) (by rfl) (by rfl)) (As.nil ?_))⟩)))
  refine CallTo.tuple (by exact hl) (len_k (by simp [strVals]; omega)) fun t ht => ?_
  have k1 : Same σ.H (upd σ.H t (.tup (strVals ss))) := same_new ht
  have htc : t ≠ c := fun z => by rw [z] at ht; dsimp only at ht; rw [X.obj] at ht; cases ht
  refine Pe.ev (Pe.l E (by rfl) (pm_ne (by rfl) (by rfl)) (by rfl)) ⟨c, 218, _, rfl, k1.at X.obj, set_218_flag_names P, le900 (by rfl), ?_⟩
  have kk : Keep (fun x => x = c) σ.H (upd (upd σ.H t (.tup (strVals ss))) c (copyO { d with names := t })) := (Same.weak k1).put (.inr rfl)
  refine Exs.nil (Exs.nil (Exs.nil (Exs.nil (Exs.nil (Exs.nil (k _ t ?_ (X.keepC kk (upd_self _ _ _) rfl (kk.get X.kept X.kc))))))))
  show upd _ c _ t = _
  rw [upd_ne htc]; exact upd_self _ _ _
theorem take_a_ok (G : Gr P C.b) (ok : OkA C.A 5) {t w : Str} (hA : σ.H A = some (.tup [.str "ok" 0, .str t 0, .none, .str w 0]))
    (k : Φ .none σ) : CodeTo C (.ref 215) [.ref c, .ref A] σ Φ := by
  refine (f_take P).call G ok (bind2 (n1 := "self") (n2 := "answer") (fun x y => by kernel_rfl) (by kernel_rfl) (by kernel_rfl)) fun b L env Gb okb E => ?_
  refine Exs.cons (Ex.assign rfl E.kind (E.kinds _ _ (by rfl)) E.loc (Pe.ev (Pe.itemT (Pe.l E (by rfl) (by rfl) (by rfl)) Pe.int (by exact hA) (by decide) (by decide) (by rfl) (by rfl)) ?_))
  refine Exs.cons (Ex.ifP (c := false) (Pt.cmp (Pe.l E (by rfl) pm_self (by rfl)) Pe.str CmpTo.eqs (by rfl)) (fun q => absurd q (by decide)) fun _ => ?_)
  refine Exs.cons (Ex.ifP (c := false) (Pt.cmp (Pe.l E (by rfl) pm_self (by rfl)) Pe.str CmpTo.eqs (by rfl)) (fun q => absurd q (by decide)) fun _ => ?_)
  refine Exs.cons (Ex.ifP (c := false) (Pt.cmp (Pe.l E (by rfl) pm_self (by rfl)) Pe.str CmpTo.eqs (by rfl)) (fun q => absurd q (by decide)) fun _ => ?_)
  refine Exs.cons (Ex.ifP (c := false) (Pt.cmp (Pe.l E (by rfl) pm_self (by rfl)) Pe.str CmpTo.eqs (by rfl)) (fun q => absurd q (by decide)) fun _ => ?_)
  refine Exs.cons (Ex.ifP (c := false) (Pt.cmp (Pe.l E (by rfl) pm_self (by rfl)) Pe.str CmpTo.eqs (by rfl)) (fun q => absurd q (by decide)) fun _ => ?_)
  refine Exs.cons (Ex.ifP (c := true) (Pt.cmp (Pe.l E (by rfl) pm_self (by rfl)) Pe.str CmpTo.eqs (by rfl)) (fun _ => ?_) fun q => absurd q (by decide))
  refine Exs.cons (Ex.expr ?_ E.quiet rfl)
  refine Ev.call Gb (Pe.ev (Pe.g E Gb (by rfl) (g_take_code P) (by rfl)) ⟨k_take_code P, As.cons (Pe.ev (Pe.l E (by rfl) (pm_ne (by rfl) (by rfl)) (by rfl)) (As.cons (Pe.ev (Pe.cmp (Pe.itemT (Pe.l E (by rfl) (pm_ne (by rfl) (by rfl)) (by rfl)) Pe.int (by exact hA) (by decide) (by decide) (by rfl) (by rfl)) Pe.str CmpTo.nes (by rfl)) (As.cons (Pe.ev (Pe.itemT (Pe.l E (by rfl) (pm_ne (by rfl) (by rfl)) (by rfl)) Pe.int (by exact hA) (by decide) (by decide) (by rfl) (by rfl)) (As.nil (CodeTo.call ?_)))))))⟩)
  refine take_code_none Gb (by exact okb.le (by omega)) ?_
  exact Exs.nil (Exs.nil (Exs.nil (Exs.nil (Exs.nil (Exs.nil (Exs.nil (k)))))))
theorem take_a_top (G : Gr P C.b) (ok : OkA C.A 5) (X : CopyIs σ.H c d hs R) {t w : Str} {n : Int} {l a : Addr} (hl : σ.H l = some (.list [.ref a, .int n 0])) (ha : σ.H a = some (atomO "HIGHESTMODSEQ")) (hA : σ.H A = some (.tup [.str "ok" 0, .str t 0, .ref l, .str w 0]))
    (k : ∀ H', Keep (fun x => x = c) σ.H H' → CopyIs H' c { d with top := if (t != ("*" : Str)) then max d.top n else d.top } hs R → Φ .none ⟨σ.m, H'⟩) : CodeTo C (.ref 215) [.ref c, .ref A] σ Φ := by
  refine (f_take P).call G ok (bind2 (n1 := "self") (n2 := "answer") (fun x y => by kernel_rfl) (by kernel_rfl) (by kernel_rfl)) fun b L env Gb okb E => ?_
  refine Exs.cons (Ex.assign rfl E.kind (E.kinds _ _ (by rfl)) E.loc (Pe.ev (Pe.itemT (Pe.l E (by rfl) (by rfl) (by rfl)) Pe.int (by exact hA) (by decide) (by decide) (by rfl) (by rfl)) ?_))
  refine Exs.cons (Ex.ifP (c := false) (Pt.cmp (Pe.l E (by rfl) pm_self (by rfl)) Pe.str CmpTo.eqs (by rfl)) (fun q => absurd q (by decide)) fun _ => ?_)
  refine Exs.cons (Ex.ifP (c := false) (Pt.cmp (Pe.l E (by rfl) pm_self (by rfl)) Pe.str CmpTo.eqs (by rfl)) (fun q => absurd q (by decide)) fun _ => ?_)
  refine Exs.cons (Ex.ifP (c := false) (Pt.cmp (Pe.l E (by rfl) pm_self (by rfl)) Pe.str CmpTo.eqs (by rfl)) (fun q => absurd q (by decide)) fun _ => ?_)
  refine Exs.cons (Ex.ifP (c := false) (Pt.cmp (Pe.l E (by rfl) pm_self (by rfl)) Pe.str CmpTo.eqs (by rfl)) (fun q => absurd q (by decide)) fun _ => ?_)
  refine Exs.cons (Ex.ifP (c := false) (Pt.cmp (Pe.l E (by rfl) pm_self (by rfl)) Pe.str CmpTo.eqs (by rfl)) (fun q => absurd q (by decide)) fun _ => ?_)
  refine Exs.cons (Ex.ifP (c := true) (Pt.cmp (Pe.l E (by rfl) pm_self (by rfl)) Pe.str CmpTo.eqs (by rfl)) (fun _ => ?_) fun q => absurd q (by decide))
  refine Exs.cons (Ex.expr ?_ E.quiet rfl)
  refine Ev.call Gb (Pe.ev (Pe.g E Gb (by rfl) (g_take_code P) (by rfl)) ⟨k_take_code P, As.cons (Pe.ev (Pe.l E (by rfl) (pm_ne (by rfl) (by rfl)) (by rfl)) (As.cons (Pe.ev (Pe.cmp (Pe.itemT (Pe.l E (by rfl) (pm_ne (by rfl) (by rfl)) (by rfl)) Pe.int (by exact hA) (by decide) (by decide) (by rfl) (by rfl)) Pe.str CmpTo.nes (by rfl)) (As.cons (Pe.ev (Pe.itemT (Pe.l E (by rfl) (pm_ne (by rfl) (by rfl)) (by rfl)) Pe.int (by exact hA) (by decide) (by decide) (by rfl) (by rfl)) (As.nil (CodeTo.call ?_)))))))⟩)
  refine take_code_top Gb (by exact okb.le (by omega)) (by exact X) (by exact hl) (by exact ha) fun H' k1 k2 => ?_
  exact Exs.nil (Exs.nil (Exs.nil (Exs.nil (Exs.nil (Exs.nil (Exs.nil (k H' k1 k2)))))))
theorem take_a_ro (G : Gr P C.b) (ok : OkA C.A 5) (X : CopyIs σ.H c d hs R) {t w : Str} {ro : Bool} {l a : Addr} (hl : σ.H l = some (.list [.ref a])) (ha : σ.H a = some (atomO (if ro then "READ-ONLY" else "READ-WRITE"))) (hA : σ.H A = some (.tup [.str "ok" 0, .str t 0, .ref l, .str w 0]))
    (k : ∀ H', Keep (fun x => x = c) σ.H H' → CopyIs H' c { d with ro := ro } hs R → Φ .none ⟨σ.m, H'⟩) : CodeTo C (.ref 215) [.ref c, .ref A] σ Φ := by
  refine (f_take P).call G ok (bind2 (n1 := "self") (n2 := "answer") (fun x y => by kernel_rfl) (by kernel_rfl) (by kernel_rfl)) fun b L env Gb okb E => ?_
  refine Exs.cons (Ex.assign rfl E.kind (E.kinds _ _ (by rfl)) E.loc (Pe.ev (Pe.itemT (Pe.l E (by rfl) (by rfl) (by rfl)) Pe.int (by exact hA) (by decide) (by decide) (by rfl) (by rfl)) ?_))
  refine Exs.cons (Ex.ifP (c := false) (Pt.cmp (Pe.l E (by rfl) pm_self (by rfl)) Pe.str CmpTo.eqs (by rfl)) (fun q => absurd q (by decide)) fun _ => ?_)
  refine Exs.cons (Ex.ifP (c := false) (Pt.cmp (Pe.l E (by rfl) pm_self (by rfl)) Pe.str CmpTo.eqs (by rfl)) (fun q => absurd q (by decide)) fun _ => ?_)
  refine Exs.cons (Ex.ifP (c := false) (Pt.cmp (Pe.l E (by rfl) pm_self (by rfl)) Pe.str CmpTo.eqs (by rfl)) (fun q => absurd q (by decide)) fun _ => ?_)
  refine Exs.cons (Ex.ifP (c := false) (Pt.cmp (Pe.l E (by rfl) pm_self (by rfl)) Pe.str CmpTo.eqs (by rfl)) (fun q => absurd q (by decide)) fun _ => ?_)
  refine Exs.cons (Ex.ifP (c := false) (Pt.cmp (Pe.l E (by rfl) pm_self (by rfl)) Pe.str CmpTo.eqs (by rfl)) (fun q => absurd q (by decide)) fun _ => ?_)
  refine Exs.cons (Ex.ifP (c := true) (Pt.cmp (Pe.l E (by rfl) pm_self (by rfl)) Pe.str CmpTo.eqs (by rfl)) (fun _ => ?_) fun q => absurd q (by decide))
  refine Exs.cons (Ex.expr ?_ E.quiet rfl)
  refine Ev.call Gb (Pe.ev (Pe.g E Gb (by rfl) (g_take_code P) (by rfl)) ⟨k_take_code P, As.cons (Pe.ev (Pe.l E (by rfl) (pm_ne (by rfl) (by rfl)) (by rfl)) (As.cons (Pe.ev (Pe.cmp (Pe.itemT (Pe.l E (by rfl) (pm_ne (by rfl) (by rfl)) (by rfl)) Pe.int (by exact hA) (by decide) (by decide) (by rfl) (by rfl)) Pe.str CmpTo.nes (by rfl)) (As.cons (Pe.ev (Pe.itemT (Pe.l E (by rfl) (pm_ne (by rfl) (by rfl)) (by rfl)) Pe.int (by exact hA) (by decide) (by decide) (by rfl) (by rfl)) (As.nil (CodeTo.call ?_)))))))⟩)
  refine take_code_ro Gb (by exact okb.le (by omega)) (by exact X) (by exact hl) (by exact ha) fun H' k1 k2 => ?_
  exact Exs.nil (Exs.nil (Exs.nil (Exs.nil (Exs.nil (Exs.nil (Exs.nil (k H' k1 k2)))))))
theorem take_a_search (G : Gr P C.b) (ok : OkA C.A 5) {S : Addr} (hA : σ.H A = some (.tup [.str "search" 0, .ref S, .int 0 0])) (k : Φ .none σ) : CodeTo C (.ref 215) [.ref c, .ref A] σ Φ := by
  refine (f_take P).call G ok (bind2 (n1 := "self") (n2 := "answer") (fun x y => by kernel_rfl) (by kernel_rfl) (by kernel_rfl)) fun b L env Gb okb E => ?_
  refine Exs.cons (Ex.assign rfl E.kind (E.kinds _ _ (by rfl)) E.loc (Pe.ev (Pe.itemT (Pe.l E (by rfl) (by rfl) (by rfl)) Pe.int (by exact hA) (by decide) (by decide) (by rfl) (by rfl)) ?_))
  refine Exs.cons (Ex.ifP (c := false) (Pt.cmp (Pe.l E (by rfl) pm_self (by rfl)) Pe.str CmpTo.eqs (by rfl)) (fun q => absurd q (by decide)) fun _ => ?_)
  refine Exs.cons (Ex.ifP (c := false) (Pt.cmp (Pe.l E (by rfl) pm_self (by rfl)) Pe.str CmpTo.eqs (by rfl)) (fun q => absurd q (by decide)) fun _ => ?_)
  refine Exs.cons (Ex.ifP (c := false) (Pt.cmp (Pe.l E (by rfl) pm_self (by rfl)) Pe.str CmpTo.eqs (by rfl)) (fun q => absurd q (by decide)) fun _ => ?_)
  refine Exs.cons (Ex.ifP (c := false) (Pt.cmp (Pe.l E (by rfl) pm_self (by rfl)) Pe.str CmpTo.eqs (by rfl)) (fun q => absurd q (by decide)) fun _ => ?_)
  refine Exs.cons (Ex.ifP (c := false) (Pt.cmp (Pe.l E (by rfl) pm_self (by rfl)) Pe.str CmpTo.eqs (by rfl)) (fun q => absurd q (by decide)) fun _ => ?_)
  refine Exs.cons (Ex.ifP (c := false) (Pt.cmp (Pe.l E (by rfl) pm_self (by rfl)) Pe.str CmpTo.eqs (by rfl)) (fun q => absurd q (by decide)) fun _ => ?_)
  exact Exs.nil (Exs.nil (Exs.nil (Exs.nil (Exs.nil (Exs.nil (Exs.nil (k)))))))
theorem take_a_no (G : Gr P C.b) (ok : OkA C.A 5) {S : Addr} (hA : σ.H A = some (.tup [.str "no" 0, .str "a1" 0, .none, .str "no" 0])) (k : Φ .none σ) : CodeTo C (.ref 215) [.ref c, .ref A] σ Φ := by
  refine (f_take P).call G ok (bind2 (n1 := "self") (n2 := "answer") (fun x y => by kernel_rfl) (by kernel_rfl) (by kernel_rfl)) fun b L env Gb okb E => ?_
  refine Exs.cons (Ex.assign rfl E.kind (E.kinds _ _ (by rfl)) E.loc (Pe.ev (Pe.itemT (Pe.l E (by rfl) (by rfl) (by rfl)) Pe.int (by exact hA) (by decide) (by decide) (by rfl) (by rfl)) ?_))
  refine Exs.cons (Ex.ifP (c := false) (Pt.cmp (Pe.l E (by rfl) pm_self (by rfl)) Pe.str CmpTo.eqs (by rfl)) (fun q => absurd q (by decide)) fun _ => ?_)
  refine Exs.cons (Ex.ifP (c := false) (Pt.cmp (Pe.l E (by rfl) pm_self (by rfl)) Pe.str CmpTo.eqs (by rfl)) (fun q => absurd q (by decide)) fun _ => ?_)
  refine Exs.cons (Ex.ifP (c := false) (Pt.cmp (Pe.l E (by rfl) pm_self (by rfl)) Pe.str CmpTo.eqs (by rfl)) (fun q => absurd q (by decide)) fun _ => ?_)
  refine Exs.cons (Ex.ifP (c := false) (Pt.cmp (Pe.l E (by rfl) pm_self (by rfl)) Pe.str CmpTo.eqs (by rfl)) (fun q => absurd q (by decide)) fun _ => ?_)
  refine Exs.cons (Ex.ifP (c := false) (Pt.cmp (Pe.l E (by rfl) pm_self (by rfl)) Pe.str CmpTo.eqs (by rfl)) (fun q => absurd q (by decide)) fun _ => ?_)
  refine Exs.cons (Ex.ifP (c := false) (Pt.cmp (Pe.l E (by rfl) pm_self (by rfl)) Pe.str CmpTo.eqs (by rfl)) (fun q => absurd q (by decide)) fun _ => ?_)
  exact Exs.nil (Exs.nil (Exs.nil (Exs.nil (Exs.nil (Exs.nil (Exs.nil (k)))))))
end
end Mine
end
section
set_option maxRecDepth 100000
set_option Elab.async false
set_option linter.unusedVariables false
set_option maxHeartbeats 4000000
namespace Mine
open PySem PySem.W PySem.Calls PyProof.Rows

section
variable {P : Params} {C : Cx} {σ : St} {Φ : Value → St → Prop}
theorem law_know_spec (G : Gr P C.b) (ok : OkA C.A 4) {l T : Addr} {r : Rw} {vs : List Value} {es : List (Str × Value)} {W : Wd} (hrow : RowAt σ.H l r) (hT : σ.H T = some (.list vs)) (hP : PairsAt σ.H vs es) (hnd : (es.map (·.1)).Nodup) (hz : es.length ≤ 3) (hW : WordsAre σ.H es W) (hu : ∀ u, W.uid = some u → u = r.hid)
    (k : ∀ H' r', Keep (fun x => x = l) σ.H H' → (∀ x, H' x = none → σ.H x = none) → KnowTo W r r' → RowAt H' l r' → Φ .none ⟨σ.m, H'⟩) : CodeTo C (.ref 317) [.ref l, .ref T] σ Φ := by
  refine (f_law_know P).call G ok (bind2 (n1 := "row") (n2 := "pairs") (fun x y => by kernel_rfl) (by kernel_rfl) (by kernel_rfl)) fun b L env Gb okb E => ?_
  refine Exs.cons (Ex.assign rfl E.kind (E.kinds _ _ (by rfl)) E.loc (Ev.call Gb (Pe.ev (nm_dict E Gb (by rfl)) ⟨.inr (.inl ⟨_, rfl⟩), ?_⟩)))
  refine As.cons (Pe.ev (Pe.l E (by rfl) (by rfl) (by rfl)) (As.nil (CallTo.dictL okb.hd Gb (by exact hT) (by exact hP) hnd (by omega) fun dd hdd => ?_)))
  dsimp only at hdd
  show Exs (C.call env b L) env _ ⟨putM (fun x => List.lookup x [(("row" : Str), Value.ref l), ("pairs", .ref T)].reverse) "words" (.ref dd), upd σ.H dd (.dict C.prog C.w es)⟩ _
  have k0 : Same σ.H (upd σ.H dd (.dict C.prog C.w es)) := same_new hdd
  have hD : upd σ.H dd (.dict C.prog C.w es) dd = some (.dict C.prog C.w es) := upd_self _ _ _
  generalize upd σ.H dd (.dict C.prog C.w es) = H2 at k0 hD
  have hld : l ≠ dd := fun z => by obtain ⟨fv, _, ho⟩ := hrow; rw [z, hdd] at ho; cases ho
  have W2 := hW.same k0
  have hrow2 := hrow.same k0
  have NW : NoWord H2 (fun x => x = l) := by
    obtain ⟨fv, _, ho⟩ := hrow2
    intro x z o q
    rw [z, ho] at q
    cases q
    refine ⟨by simp [atomO], fun as e => ?_, by simp⟩
    cases as <;> simp [refs] at e
  have hnw : ∀ {H' : AH}, Keep (fun x => x = l) H2 H' → WordsAre H' es W := fun kk => W2.keep kk NW
  have hdd' : ∀ {H' : AH}, Keep (fun x => x = l) H2 H' → H' dd = some (.dict C.prog C.w es) := fun kk => kk.get hD (fun z => hld z.symm)
  refine Exs.cons (Ex.mono (Φ := fun f σ' => f = .next ∧ σ'.m = putM (fun x => List.lookup x [(("row" : Str), Value.ref l), ("pairs", .ref T)].reverse) "words" (.ref dd) ∧ Keep (fun x => x = l) H2 σ'.H ∧ RowAt σ'.H l { r with known := W.uid.getD r.known }) ?_ ?_)
  · refine Ex.ifP (c := W.uid.isSome) (Pt.to (Pt.cmpH Pe.str (Pe.l E (by rfl) pm_self (by rfl)) (CmpH.inDict hD) (by rfl)) (by rw [W2.uid, Option.isSome_map])) (fun q => ?_) fun q => ?_
    · obtain ⟨u, hu'⟩ := Option.isSome_iff_exists.mp q
      have hur := hu u hu'
      obtain ⟨fv, hf, ho⟩ := hrow2
      refine Exs.cons (Ex.setitem rfl (Pe.ev (Pe.item (Pe.l E (by rfl) (pm_ne (by rfl) (by rfl)) (by rfl)) Pe.int ho (by decide) (by decide) (by rfl)) (Pe.ev (Pe.l E (by rfl) (pm_ne (by rfl) (by rfl)) (by rfl)) (Pe.ev Pe.int ⟨l, _, 1, 0, rfl, rfl, ho, by decide, by simp, by decide, ?_⟩))))
      refine Exs.nil ⟨rfl, rfl, Keep.upd rfl, fv, hf.mono fun x ws e => ?_, ?_⟩
      · dsimp only
        rw [upd_ne (fun z => by rw [z, ho] at e; cases e)]; exact e
      · rw [hu', hur]; exact upd_self _ _ _
    · have hn : W.uid = none := by simpa using q
      refine Exs.nil ⟨rfl, rfl, Keep.refl, ?_⟩
      rw [hn]; exact hrow2
  rintro f ⟨m3, H3⟩ ⟨rfl, em, k3, hrow3⟩
  dsimp only at em k3 hrow3
  subst em
  refine Exs.cons (Ex.mono (Φ := fun f σ' => f = .next ∧ σ'.m = putM (fun x => List.lookup x [(("row" : Str), Value.ref l), ("pairs", .ref T)].reverse) "words" (.ref dd) ∧ Keep (fun x => x = l) H2 σ'.H ∧ ∃ fl', KnowFl W.fl r.fl fl' ∧ RowAt σ'.H l { r with known := W.uid.getD r.known, fl := fl', ms := if W.fl.isSome then 0 else r.ms }) ?_ ?_)
  · have W3 := hnw k3
    have hfl := W3.fl
    cases hwf : W.fl with
    | none =>
      rw [hwf] at hfl
      refine Ex.ifP (c := false) (Pt.to (Pt.cmpH Pe.str (Pe.l E (by rfl) pm_self (by rfl)) (CmpH.inDict (hdd' k3)) (by rfl)) (by rw [show es.lookup ("FLAGS" : Str) = none from hfl]; rfl)) (fun q => absurd q (by decide)) fun q => ?_
      exact Exs.nil ⟨rfl, rfl, k3, r.fl, rfl, hrow3⟩
    | some ns =>
      rw [hwf] at hfl
      obtain ⟨fl0, as, e1, e2, e3, e4⟩ := hfl
      refine Ex.ifP (c := true) (Pt.to (Pt.cmpH Pe.str (Pe.l E (by rfl) pm_self (by rfl)) (CmpH.inDict (hdd' k3)) (by rfl)) (by rw [e1]; rfl)) (fun _ => ?_) fun q => absurd q (by decide)
      refine Exs.cons (Ex.setitem rfl (Ev.call Gb (Pe.ev (nm_tuple E Gb (by rfl)) ⟨.inr (.inl ⟨_, rfl⟩), As.cons ?_⟩)))
      refine Ev.call Gb (Pe.ev (nm_sorted E Gb (by rfl)) ⟨.inl ⟨_, rfl⟩, As.cons ?_⟩)
      refine Ev.compPL (C := C.call env b L) Gb okb.hd [("atom", .local)] E (cl := []) (Nat.zero_le _) rfl (by decide) rfl (by decide) (by rfl) (by rfl) ?_
      refine Pe.ev (Pe.itemD (Pe.l E (by rfl) pm_self (by rfl)) Pe.str (hdd' k3) e1) ⟨fl0, refs as, fun j => (ns[j]?).map fun x => .str x 0, rfl, e2, len_k (by rw [refs_len, e3.len]; omega), fun b' L' F j v m env' Gb' Ec hv => ?_, fun n hn => ?_⟩
      · obtain ⟨a, ha, rfl⟩ := refs_get hv
        have hj := (List.getElem?_eq_some_iff.mp ha).1
        obtain ⟨x, hx⟩ : ∃ x, ns[j]? = some x := ⟨ns[j]'(e3.len ▸ hj), by simp [e3.len ▸ hj]⟩
        dsimp only
        rw [hx]
        exact PureElt.one (Pe.attr Gb' (Pe.lm Ec (by rfl) (by rfl)) (e3.at_ j a x ha hx) (get_132_text P) (by rfl) (by rfl))
      · rw [refs_len, e3.len, filterMap_map]
        refine As.nil (CallTo.sorted (ss := ns) (upd_self _ _ _) (by omega) fun out a hs ha => As.nil (CallTo.tuple (upd_self _ _ _) (len_k ?_) fun t ht => ?_))
        · simp only [strVals, List.length_map, hs.1.length_eq]; omega
        have ks : Same H3 (upd (upd (upd H3 n (.list (strVals ns))) a (.list (strVals out))) t (.tup (strVals out))) := ((same_new hn).trans (same_new ha)).trans (same_new ht)
        obtain ⟨fv, hf, ho⟩ := hrow3
        have ho3 := ks.at ho
        refine Pe.ev (Pe.l E (by rfl) (pm_ne (by rfl) (by rfl)) (by rfl)) (Pe.ev Pe.int ⟨l, _, 2, 0, rfl, rfl, ho3, by decide, by simp, by decide, ?_⟩)
        refine Exs.cons (Ex.setitem rfl (Pe.ev Pe.int (Pe.ev (Pe.l E (by rfl) (pm_ne (by rfl) (by rfl)) (by rfl)) (Pe.ev Pe.int ⟨l, _, 3, 0, rfl, rfl, upd_self _ _ _, by decide, by simp, by decide, ?_⟩))))
        rw [upd_upd]
        have hth : t ≠ l := fun z => by
          have := ((same_new (o := .list (strVals ns)) hn).trans (same_new (o := .list (strVals out)) ha)).at ho
          have h9 : upd (upd H3 n (.list (strVals ns))) a (.list (strVals out)) t = none := ht
          rw [z] at h9; dsimp only at this; rw [this] at h9; cases h9
        refine Exs.nil ⟨rfl, rfl, (k3.trans (Same.weak ks)).trans (Keep.upd rfl), some out, ⟨out, hs, rfl⟩, .ref t, ⟨t, rfl, ?_⟩, upd_self _ _ _⟩
        show upd _ l _ t = _
        rw [upd_ne hth]; exact upd_self _ _ _
  rintro f ⟨m4, H4⟩ ⟨rfl, em, k4, fl', hfl', hrow4⟩
  dsimp only at em k4 hrow4
  subst em
  have fin : ∀ (H' : AH) (ms' : Int), Keep (fun x => x = l) H2 H' → ms' = W.ms.getD (if W.fl.isSome then 0 else r.ms) → RowAt H' l { r with known := W.uid.getD r.known, fl := fl', ms := ms' } → Φ .none ⟨σ.m, H'⟩ := fun H' ms' kk e hr' => by
    have k2 : Keep (fun x => x = l) σ.H H' := (Same.weak k0).trans kk
    refine k H' { r with known := W.uid.getD r.known, fl := fl', ms := ms' } k2 (fun x hx => k2.none (fun y z q => ?_) x hx) ⟨rfl, rfl, hfl', e⟩ hr'
    obtain ⟨fv, _, ho⟩ := hr'
    rw [z, ho] at q; cases q
  have W4 := hnw k4
  have hms := W4.ms
  cases hwm : W.ms with
  | none =>
    rw [hwm] at hms
    refine Exs.cons (Ex.ifP (c := false) (Pt.to (Pt.cmpH Pe.str (Pe.l E (by rfl) pm_self (by rfl)) (CmpH.inDict (hdd' k4)) (by rfl)) (by rw [show es.lookup ("MODSEQ" : Str) = none from hms]; rfl)) (fun q => absurd q (by decide)) fun q => Exs.nil (Exs.nil ?_))
    exact fin H4 _ k4 (by rw [hwm]; rfl) hrow4
  | some mm =>
    rw [hwm] at hms
    obtain ⟨ml, e1, e2⟩ := hms
    obtain ⟨fv, hf, ho⟩ := hrow4
    refine Exs.cons (Ex.ifP (c := true) (Pt.to (Pt.cmpH Pe.str (Pe.l E (by rfl) pm_self (by rfl)) (CmpH.inDict (hdd' k4)) (by rfl)) (by rw [e1]; rfl)) (fun _ => ?_) fun q => absurd q (by decide))
    refine Exs.cons (Ex.setitem rfl (Pe.ev (Pe.item (Pe.itemD (Pe.l E (by rfl) pm_self (by rfl)) Pe.str (hdd' k4) e1) Pe.int e2 (by decide) (by decide) (by rfl)) (Pe.ev (Pe.l E (by rfl) (pm_ne (by rfl) (by rfl)) (by rfl)) (Pe.ev Pe.int ⟨l, _, 3, 0, rfl, rfl, ho, by decide, by simp, by decide, Exs.nil (Exs.nil ?_)⟩))))
    refine fin _ mm (k4.trans (Keep.upd rfl)) (by rw [hwm]; rfl) ⟨fv, hf.mono fun x ws e => ?_, upd_self _ _ _⟩
    dsimp only
    rw [upd_ne (fun z => by rw [z, ho] at e; cases e)]; exact e

/-! the pairs of a fetch -/
def optE (k : Str) : Option Value → List (Str × Value)
  | none => []
  | some v => [(k, v)]
theorem PairsAt.app {H : AH} {vs ws : List Value} {es fs : List (Str × Value)} (A : PairsAt H vs es) (B : PairsAt H ws fs) : PairsAt H (vs ++ ws) (es ++ fs) := by
  induction A with
  | nil => exact B
  | cons T x v t h _ ih => exact .cons T x v t h ih
theorem PairsAt.rev {H : AH} {vs : List Value} {es : List (Str × Value)} (A : PairsAt H vs es) : PairsAt H vs.reverse es.reverse := by
  induction A with
  | nil => exact .nil
  | cons T x v t h _ ih => rw [List.reverse_cons, List.reverse_cons]; exact ih.app (.cons T x v t h .nil)
theorem PairsAt.put {H : AH} {vs : List Value} {es : List (Str × Value)} {a : Addr} {ws : List Value} {o : AO} (A : PairsAt H vs es) (h : H a = some (.list ws)) : PairsAt (upd H a o) vs es := A.mono fun T vs q => by
  rw [upd_ne (fun z => by rw [z, h] at q; cases q)]; exact q
theorem optE_facts (a b c : Option Value) (es : List (Str × Value)) (h : es = optE "UID" a ++ optE "FLAGS" b ++ optE "MODSEQ" c ∨ es = (optE "UID" a ++ optE "FLAGS" b ++ optE "MODSEQ" c).reverse) :
    es.lookup ("UID" : Str) = a ∧ es.lookup ("FLAGS" : Str) = b ∧ es.lookup ("MODSEQ" : Str) = c ∧ (es.map (·.1)).Nodup ∧ es.length ≤ 3 := by
  rcases h with rfl | rfl <;> cases a <;> cases b <;> cases c <;> exact ⟨by rfl, by rfl, by rfl, of_decide_eq_true (by rfl), Nat.le_of_ble_eq_true (by rfl)⟩
def FlB (H : AH) (p : Addr) : Option Value → Option (List Str) → Prop
  | none, none => True
  | some v, some ns => ∃ l as, v = .ref l ∧ l ≠ p ∧ H l = some (.list (refs as)) ∧ AtomsAre H as ns ∧ ns.length ≤ 50
  | _, _ => False
def MsB (H : AH) (p : Addr) : Option Value → Option Int → Prop
  | none, none => True
  | some v, some m => ∃ l, v = .ref l ∧ l ≠ p ∧ H l = some (.list [.int m 0])
  | _, _ => False
theorem FlB.keep {H H' : AH} {p : Addr} {b : Option Value} {fl : Option (List Str)} {vs : List Value} (X : FlB H p b fl) (k : Keep (fun x => x = p) H H') (hp : H p = some (.list vs)) : FlB H' p b fl := by
  cases b <;> cases fl
  · trivial
  · exact X
  · exact X
  · obtain ⟨l, as, e1, e2, e3, e4, e5⟩ := X
    exact ⟨l, as, e1, e2, k.get e3 e2, ⟨e4.len, fun i a n a1 a2 => k.get (e4.at_ i a n a1 a2) fun z => by have := e4.at_ i a n a1 a2; rw [z, hp] at this; cases this⟩, e5⟩
theorem MsB.keep {H H' : AH} {p : Addr} {b : Option Value} {ms : Option Int} (X : MsB H p b ms) (k : Keep (fun x => x = p) H H') : MsB H' p b ms := by
  cases b <;> cases ms
  · trivial
  · exact X
  · exact X
  · obtain ⟨l, e1, e2, e3⟩ := X
    exact ⟨l, e1, e2, k.get e3 e2⟩
def flagNames : List Str := ["\\Seen", "k", "\\Deleted"]
theorem law_pairs_spec (G : Gr P C.b) (ok : OkA C.A 5) {l : Addr} {r : Rw} {cell : Int} (hrow : RowAt σ.H l r)
    (k : ∀ H' p vs es W, Same σ.H H' → H' p = some (.list vs) → PairsAt H' vs es → (es.map (·.1)).Nodup → es.length ≤ 3 → WordsAre H' es W → (∀ u, W.uid = some u → u = r.hid) → Φ (.ref p) ⟨σ.m, H'⟩) : CodeTo C (.ref 312) [.ref l, .int cell 0] σ Φ := by
  refine (f_law_pairs P).call G ok (bind2 (n1 := "row") (n2 := "cell") (fun x y => by kernel_rfl) (by kernel_rfl) (by kernel_rfl)) fun b L env Gb okb E => ?_
  refine Exs.cons (Ex.assign rfl E.kind (E.kinds _ _ (by rfl)) E.loc (Ev.list (As.nil ⟨len_small (by rfl), fun p hp => ?_⟩)))
  dsimp only at hp
  refine Exs.cons (Ex.assign rfl E.kind (E.kinds _ _ (by rfl)) E.loc (Pe.ev (Pe.binop Pe.int (Pe.binop (Pe.l E (by rfl) (pm_ne (by rfl) (by rfl)) (by rfl)) Pe.int (OpTo.mod (by decide))) OpTo.add) ?_))
  generalize hw : (1 + cell.fmod 7) = w
  show Exs (C.call env b L) env _ ⟨putM (putM (fun x => List.lookup x [(("row" : Str), Value.ref l), ("cell", .int cell 0)].reverse) "pairs" (.ref p)) "ways" (.int w 0), upd σ.H p (.list [])⟩ _
  -- the uid
  refine Exs.cons (Ex.mono (Φ := fun f σ' => f = .next ∧ σ'.m = putM (putM (fun x => List.lookup x [(("row" : Str), Value.ref l), ("cell", .int cell 0)].reverse) "pairs" (.ref p)) "ways" (.int w 0) ∧ Same σ.H σ'.H ∧ ∃ vs a, σ'.H p = some (.list vs) ∧ PairsAt σ'.H vs (optE "UID" a) ∧ ∀ v, a = some v → v = .int r.hid 0) ?_ ?_)
  · obtain ⟨fv, hf, ho⟩ := hrow.same (same_new (o := .list []) hp)
    refine Ex.ifP (Pt.cmp (Pe.binop (Pe.l E (by rfl) pm_self (by rfl)) Pe.int (OpTo.mod (by decide))) Pe.int CmpTo.eq (by rfl)) (fun _ => ?_) fun _ => Exs.nil ⟨rfl, rfl, same_new hp, [], none, upd_self _ _ _, .nil, by simp⟩
    refine Exs.cons (Ex.expr ?_ E.quiet rfl)
    refine Ev.lmeth Gb PySem.F.slot_list_append PySem.F.type_list_append (Pe.ev (Pe.l E (by rfl) (pm_ne (by rfl) putM_self) (by rfl)) ⟨p, _, rfl, upd_self _ _ _, As.cons (Ev.tuple ?_)⟩)
    refine As.cons (Pe.ev Pe.str (As.cons (Pe.ev (Pe.item (Pe.l E (by rfl) (pm_ne (by rfl) (pq_ne (by rfl) (by rfl))) (by rfl)) Pe.int ho (by decide) (by decide) (by rfl)) (As.nil ⟨len_small (by rfl), fun e he => As.nil ?_⟩))))
    have hpe : p ≠ e := fun z => by dsimp only at he; rw [← z, upd_self] at he; cases he
    have h1 : upd (upd σ.H p (.list [])) e (.tup [.str "UID" 0, .int r.hid 0]) p = some (.list []) := by rw [upd_ne hpe, upd_self]
    refine CallTo.append h1 (len_small (by rfl)) (Exs.nil ⟨rfl, rfl, same_put ((same_new hp).trans (same_new he)) hp, _, some (.int r.hid 0), upd_self _ _ _, ?_, by simp⟩)
    exact (PairsAt.cons (H := upd (upd σ.H p (.list [])) e (.tup [.str "UID" 0, .int r.hid 0])) e "UID" _ 0 (upd_self _ _ _) .nil).put h1
  rintro f ⟨m3, H3⟩ ⟨rfl, em, k3, vs1, a1, hl1, P1, U1⟩
  dsimp only at em k3 hl1 P1
  subst em
  -- the flags
  refine Exs.cons (Ex.mono (Φ := fun f σ' => f = .next ∧ σ'.m = putM (putM (fun x => List.lookup x [(("row" : Str), Value.ref l), ("cell", .int cell 0)].reverse) "pairs" (.ref p)) "ways" (.int w 0) ∧ Same σ.H σ'.H ∧ ∃ vs b fl, σ'.H p = some (.list vs) ∧ PairsAt σ'.H vs (optE "UID" a1 ++ optE "FLAGS" b) ∧ vs.length ≤ 2 ∧ FlB σ'.H p b fl) ?_ ?_)
  · have hle1 : vs1.length ≤ 1 := by rw [P1.len]; cases a1 <;> simp [optE]
    refine Ex.ifP (Pt.cmp (Pe.binop (Pe.binop (Pe.l E (by rfl) pm_self (by rfl)) Pe.int (OpTo.div (by decide) (by decide))) Pe.int (OpTo.mod (by decide))) Pe.int CmpTo.eq (by rfl)) (fun _ => ?_) fun _ => Exs.nil ⟨rfl, rfl, k3, vs1, none, none, hl1, by simpa [optE] using P1, by omega, trivial⟩
    refine Exs.cons (Ex.expr ?_ E.quiet rfl)
    refine Ev.lmeth Gb PySem.F.slot_list_append PySem.F.type_list_append (Pe.ev (Pe.l E (by rfl) (pm_ne (by rfl) putM_self) (by rfl)) ⟨p, _, rfl, hl1, As.cons (Ev.tuple ?_)⟩)
    refine As.cons (Pe.ev Pe.str (As.cons ?_))
    have hn0 : 0 ≤ (cell.fdiv 7).fmod 4 ∧ (cell.fdiv 7).fmod 4 < 4 := ⟨Int.fmod_nonneg_of_pos _ (by decide), Int.fmod_lt_of_pos _ (by decide)⟩
    obtain ⟨nn, hnn⟩ := Int.eq_ofNat_of_zero_le hn0.1
    refine Ev.compE (C := C.call env b L) Gb okb.hd [("name", .local), ("Atom", .globalImplicit)] E (cl := []) (Nat.zero_le _) rfl (by decide) rfl (by decide) (by rfl) (by rfl) ?_
    refine Ev.slice (lo := none) (hi := some (nn : Int)) (st := none) (Ev.list (As.cons (Pe.ev Pe.str (As.cons (Pe.ev Pe.str (As.cons (Pe.ev Pe.str (As.nil ⟨len_small (by rfl), fun q hq => ⟨q, _, rfl, upd_self _ _ _, Pp.none, Pp.some (Pe.to (Pe.binop (Pe.binop (Pe.l E (by rfl) (pm_ne (by rfl) (pq_ne (by rfl) (by rfl))) (by rfl)) Pe.int (OpTo.div (by decide) (by decide))) Pe.int (OpTo.mod (by decide))) (by rw [hnn])), Pp.none, by simp, len_small (by rfl), fun q2 hq2 => ?_⟩⟩))))))))
    rw [slicePick_upto']
    have ks : Same H3 (upd (upd H3 q (.list [.str "\\Seen" 0, .str "k" 0, .str "\\Deleted" 0])) q2 (.list (List.take nn [.str "\\Seen" 0, .str "k" 0, .str "\\Deleted" 0]))) := (same_new hq).trans (same_new hq2)
    have hvl : (List.take nn [Value.str "\\Seen" 0, .str "k" 0, .str "\\Deleted" 0]).length ≤ 3 := by rw [List.length_take]; exact Nat.min_le_right _ _
    have hvs : List.take nn [Value.str "\\Seen" 0, .str "k" 0, .str "\\Deleted" 0] = strVals (flagNames.take nn) := by unfold strVals flagNames; rw [List.map_take]; rfl
    refine ⟨q2, List.take nn [Value.str "\\Seen" 0, .str "k" 0, .str "\\Deleted" 0], _, _, rfl, IterOver.list (C := C.call env b L) okb.hd q2 _, upd_self _ _ _, MakesIter.list (upd_self _ _ _), len_k (by omega), fun i acc σ' => Same (upd (upd H3 q (.list [.str "\\Seen" 0, .str "k" 0, .str "\\Deleted" 0])) q2 (.list (List.take nn [.str "\\Seen" 0, .str "k" 0, .str "\\Deleted" 0]))) σ'.H ∧ ∃ as, acc = refs as ∧ AtomsAre σ'.H as ((flagNames.take nn).take i), ⟨Keep.refl, [], rfl, ⟨rfl, fun i a n h => by simp at h⟩⟩, fun i acc σ' h => h.1.at (upd_self _ _ _), fun b' L' F i v acc σ' env' Gb' Ec hv ⟨j1, as, j2, j3⟩ => ?_, fun acc σ' ⟨j1, as, j2, j3⟩ n hn => ?_⟩
    · rw [hvs] at hv
      unfold strVals at hv
      rw [List.getElem?_map] at hv
      obtain ⟨x, hx, rfl⟩ := Option.map_eq_some_iff.mp hv
      refine CompElt.one (Ev.call Gb' (Pe.ev (Pe.g Ec Gb' (by rfl) (g_Atom P) (by rfl)) ⟨k_Atom P, As.cons (Pe.ev (Pe.lm Ec (by rfl) (by rfl)) (As.nil (CodeTo.call (atom_new Gb' (by exact okb.le (by omega)) fun y hy => ?_))))⟩))
      refine ⟨j1.trans (same_new hy), as ++ [y], by rw [j2]; simp [refs], ?_⟩
      rw [take_snoc hx]
      refine ⟨by rw [List.length_append, List.length_append, j3.len]; rfl, fun i a n g1 g2 => ?_⟩
      rcases snoc_get g1 with g1 | ⟨g1, rfl⟩ <;> rcases snoc_get g2 with g2 | ⟨g2, rfl⟩
      · exact (same_new hy).at (j3.at_ i a n g1 g2)
      · have := (List.getElem?_eq_some_iff.mp g1).1; have := j3.len; omega
      · have := (List.getElem?_eq_some_iff.mp g2).1; have := j3.len; omega
      · exact upd_self _ _ _
    · rw [hvs] at j3
      have hl9 : (strVals (flagNames.take nn)).length = (flagNames.take nn).length := by simp [strVals]
      rw [hl9, List.take_length] at j3
      refine As.nil ⟨len_small (by rfl), fun e he => As.nil ?_⟩
      have kall : Same H3 (upd (upd σ'.H n (.list acc)) e (.tup [.str "FLAGS" 0, .ref n])) := ((ks.trans j1).trans (same_new hn)).trans (same_new he)
      have h1 := kall.at hl1
      refine CallTo.append h1 (len_k (by omega)) (Exs.nil ⟨rfl, rfl, same_put (k3.trans kall) hp, _, some (.ref n), some (flagNames.take nn), upd_self _ _ _, ?_, by rw [List.length_append]; simp; omega, ?_⟩)
      · exact ((P1.mono fun T vs q => kall.at q).put h1).app ((PairsAt.cons (H := upd (upd σ'.H n (.list acc)) e (.tup [.str "FLAGS" 0, .ref n])) e "FLAGS" _ 0 (upd_self _ _ _) .nil).put h1)
      · have hnp : n ≠ p := fun z => by
          have := (ks.trans j1).at hl1
          rw [z] at hn; rw [this] at hn; cases hn
        have hne : n ≠ e := fun z => by dsimp only at he; rw [← z, upd_self] at he; cases he
        refine FlB.keep (H := upd (upd σ'.H n (.list acc)) e (.tup [.str "FLAGS" 0, .ref n])) ⟨n, as, rfl, hnp, ?_, ⟨j3.len, fun i a x g1 g2 => ((same_new hn).trans (same_new he)).at (j3.at_ i a x g1 g2)⟩, ?_⟩ (Keep.upd rfl) h1
        · rw [upd_ne hne, upd_self, j2]
        · have : (flagNames.take nn).length ≤ 3 := by rw [List.length_take]; exact Nat.min_le_right _ _
          omega
  rintro f ⟨m4, H4⟩ ⟨rfl, em, k4, vs2, b2, fl2, hl2, P2, hz2, F2⟩
  dsimp only at em k4 hl2 P2 F2
  subst em
  -- the modseq
  refine Exs.cons (Ex.mono (Φ := fun f σ' => f = .next ∧ σ'.m = putM (putM (fun x => List.lookup x [(("row" : Str), Value.ref l), ("cell", .int cell 0)].reverse) "pairs" (.ref p)) "ways" (.int w 0) ∧ Same σ.H σ'.H ∧ ∃ vs c3 ms, σ'.H p = some (.list vs) ∧ PairsAt σ'.H vs (optE "UID" a1 ++ optE "FLAGS" b2 ++ optE "MODSEQ" c3) ∧ vs.length ≤ 3 ∧ FlB σ'.H p b2 fl2 ∧ MsB σ'.H p c3 ms) ?_ ?_)
  · refine Ex.ifP (Pt.cmp (Pe.binop (Pe.l E (by rfl) pm_self (by rfl)) Pe.int (OpTo.div (by decide) (by decide))) Pe.int CmpTo.eq (by rfl)) (fun _ => ?_) fun _ => Exs.nil ⟨rfl, rfl, k4, vs2, none, none, hl2, by simpa [optE] using P2, by omega, F2, trivial⟩
    refine Exs.cons (Ex.expr ?_ E.quiet rfl)
    refine Ev.lmeth Gb PySem.F.slot_list_append PySem.F.type_list_append (Pe.ev (Pe.l E (by rfl) (pm_ne (by rfl) putM_self) (by rfl)) ⟨p, _, rfl, hl2, As.cons (Ev.tuple ?_)⟩)
    refine As.cons (Pe.ev Pe.str (As.cons (Ev.list (As.cons (Pe.ev (Pe.binop (Pe.binop (Pe.binop (Pe.l E (by rfl) (pm_ne (by rfl) (pq_ne (by rfl) (by rfl))) (by rfl)) Pe.int (OpTo.div (by decide) (by decide))) Pe.int (OpTo.mod (by decide))) Pe.int OpTo.add) (As.nil ⟨len_small (by rfl), fun n hn => ?_⟩))))))
    refine As.nil ⟨len_small (by rfl), fun e he => As.nil ?_⟩
    dsimp only at hn he
    have kall := (same_new (o := .list [.int ((cell.fdiv 28).fmod 900 + 1) 0]) hn).trans (same_new (o := .tup [.str "MODSEQ" 0, .ref n]) he)
    have h1 := kall.at hl2
    refine CallTo.append h1 (len_k (by omega)) (Exs.nil ⟨rfl, rfl, same_put (k4.trans kall) hp, _, some (.ref n), some ((cell.fdiv 28).fmod 900 + 1), upd_self _ _ _, ?_, by rw [List.length_append]; simp; omega, ?_, ?_⟩)
    · exact ((P2.mono fun T vs q => kall.at q).put h1).app ((PairsAt.cons (H := upd (upd H4 n (.list [.int ((cell.fdiv 28).fmod 900 + 1) 0])) e (.tup [.str "MODSEQ" 0, .ref n])) e "MODSEQ" _ 0 (upd_self _ _ _) .nil).put h1)
    · exact F2.keep ((Same.weak kall).trans (Keep.upd rfl)) hl2
    · have hnp : n ≠ p := fun z => by rw [z, hl2] at hn; cases hn
      have hne : n ≠ e := fun z => by rw [← z, upd_self] at he; cases he
      exact ⟨n, rfl, hnp, by dsimp only; rw [upd_ne hnp, upd_ne hne, upd_self]⟩
  rintro f ⟨m5, H5⟩ ⟨rfl, em, k5, vs3, c3, ms3, hl3, P3, hz3, F3, M3⟩
  dsimp only at em k5 hl3 P3 F3 M3
  subst em
  have words : ∀ {H' : AH} (es : List (Str × Value)), Same H5 H' → (es = optE "UID" a1 ++ optE "FLAGS" b2 ++ optE "MODSEQ" c3 ∨ es = (optE "UID" a1 ++ optE "FLAGS" b2 ++ optE "MODSEQ" c3).reverse) → (es.map (·.1)).Nodup ∧ es.length ≤ 3 ∧ WordsAre H' es ⟨a1.map fun _ => r.hid, fl2, ms3⟩ := fun {H'} es ks he => by
    obtain ⟨e1, e2, e3, e4, e5⟩ := optE_facts a1 b2 c3 es he
    refine ⟨e4, e5, ?_, ?_, ?_⟩
    · rw [e1]
      cases a1 with
      | none => rfl
      | some v => rw [U1 v rfl]; rfl
    · cases b2 <;> cases fl2
      · exact e2
      · exact F3.elim
      · exact F3.elim
      · obtain ⟨lf, as, q1, _, q3, q4, q5⟩ := F3
        exact ⟨lf, as, by rw [e2, q1], ks.at q3, ⟨q4.len, fun i a n g1 g2 => ks.at (q4.at_ i a n g1 g2)⟩, q5⟩
    · cases c3 <;> cases ms3
      · exact e3
      · exact M3.elim
      · exact M3.elim
      · obtain ⟨lm, q1, _, q3⟩ := M3
        exact ⟨lm, by rw [e3, q1], ks.at q3⟩
  have hw1 : ∀ u, (Wd.mk (a1.map fun _ => r.hid) fl2 ms3).uid = some u → u = r.hid := fun u hu => by
    cases a1 with
    | none => cases hu
    | some v => exact (Option.some.inj hu).symm
  refine Exs.cons (Ex.ret (Ev.ifexp (Pt.it (Pt.cmp (Pe.binop (Pe.binop (Pe.l E (by rfl) (pm_ne (by rfl) (pq_ne (by rfl) (by rfl))) (by rfl)) Pe.int (OpTo.div (by decide) (by decide))) Pe.int (OpTo.mod (by decide))) Pe.int CmpTo.eq (by rfl)) ?_)))
  split
  · obtain ⟨q1, q2, q3⟩ := words _ Keep.refl (.inl rfl)
    exact Pe.ev (Pe.l E (by rfl) (pm_ne (by rfl) putM_self) (by rfl)) (k H5 p vs3 _ _ k5 hl3 P3 q1 q2 q3 hw1)
  · refine Ev.slice (lo := none) (hi := none) (st := some (-1)) (Pe.ev (Pe.l E (by rfl) (pm_ne (by rfl) putM_self) (by rfl)) ⟨p, vs3, rfl, hl3, Pp.none, Pp.none, Pp.some (Ev.neg Pe.int), by decide, len_k (by omega), fun q hq => ?_⟩)
    rw [krv_pick]
    obtain ⟨q1, q2, q3⟩ := words _ (same_new (o := .list vs3.reverse) hq) (.inr rfl)
    exact k _ q _ _ _ (k5.trans (same_new hq)) (upd_self _ _ _) (P3.rev.mono fun T vs q => (same_new hq).at q) q1 q2 q3 hw1
end
end Mine
end
section
set_option maxRecDepth 100000
set_option Elab.async false
set_option linter.unusedVariables false
namespace Mine
open PySem PySem.W PySem.Calls PyProof.Rows

theorem Good.erase {R : List Rw} {top : Int} (A : Good R top) (a : Nat) : Good (R.eraseIdx a) top := by
  have g : ∀ (i : Nat) r, (R.eraseIdx a)[i]? = some r → R[if i < a then i else i + 1]? = some r := fun i r h => by
    rw [List.getElem?_eraseIdx] at h
    split at h <;> rename_i q
    · rw [if_pos q]; exact h
    · rw [if_neg q]; exact h
  refine ⟨fun i j r s hij h1 h2 => A.asc _ _ r s ?_ (g i r h1) (g j s h2), fun i r h => A.pos _ r (g i r h), fun i r h => A.kn _ r (g i r h)⟩
  split <;> split <;> omega
theorem Good.blank {R : List Rw} {top : Int} (A : Good R top) (lo n : Nat) : Good (blankR R lo n) top := by
  refine ⟨fun i j r s hij h1 h2 => ?_, fun i r h => ?_, fun i r h => ?_⟩
  · obtain ⟨r', a1, _, a3⟩ := blankR_known h1
    obtain ⟨s', b1, _, b3⟩ := blankR_known h2
    rw [← a3, ← b3]; exact A.asc i j r' s' hij a1 b1
  · obtain ⟨r', a1, _, a3⟩ := blankR_known h
    rw [← a3]; exact A.pos i r' a1
  · obtain ⟨r', a1, a2, a3⟩ := blankR_known h
    rw [← a2, ← a3]; exact A.kn i r' a1
theorem Good.set {R : List Rw} {top : Int} (A : Good R top) {i : Nat} {r r' : Rw} (hr : R[i]? = some r) (h1 : r'.hid = r.hid) (h2 : r'.known = 0 ∨ r'.known = r.hid) : Good (R.set i r') top := by
  have g : ∀ (j : Nat) s, (R.set i r')[j]? = some s → ∃ s', R[j]? = some s' ∧ s'.hid = s.hid ∧ (s.known = 0 ∨ s.known = s.hid) := fun j s h => by
    rw [List.getElem?_set] at h
    split at h
    · rename_i q
      subst q
      split at h
      · cases h; exact ⟨r, hr, h1.symm, h2.imp id fun e => e.trans h1.symm⟩
      · cases h
    · exact ⟨s, h, rfl, A.kn j s h⟩
  refine ⟨fun a b x y hab e1 e2 => ?_, fun a x e => ?_, fun a x e => ?_⟩
  · obtain ⟨x', p1, p2, _⟩ := g a x e1
    obtain ⟨y', q1, q2, _⟩ := g b y e2
    rw [← p2, ← q2]; exact A.asc a b x' y' hab p1 q1
  · obtain ⟨x', p1, p2, _⟩ := g a x e
    rw [← p2]; exact A.pos a x' p1
  · obtain ⟨x', _, _, p3⟩ := g a x e
    exact p3
theorem Good.snoc {R : List Rw} {top : Int} (A : Good R top) {r : Rw} {top' : Int} (h0 : 0 ≤ top) (h1 : top < r.hid) (h2 : r.hid ≤ top') (h3 : r.known = 0) : Good (R ++ [r]) top' := by
  refine ⟨fun i j x y hij e1 e2 => ?_, fun i x e => ?_, fun i x e => ?_⟩
  · rcases snoc_get e1 with f1 | ⟨f1, g1⟩ <;> rcases snoc_get e2 with f2 | ⟨f2, g2⟩
    · exact A.asc i j x y hij f1 f2
    · have := (A.pos i x f1).2; rw [g2]; omega
    · have := (List.getElem?_eq_some_iff.mp f2).1; omega
    · omega
  · rcases snoc_get e with e | ⟨_, rfl⟩
    · have := A.pos i x e; omega
    · omega
  · rcases snoc_get e with e | ⟨_, rfl⟩
    · exact A.kn i x e
    · exact .inl h3
theorem left_run {R : List Rw} : ∀ (a : Nat) r, R[a]? = some r → r.known = 0 → ∃ lo, lo ≤ a ∧ (∀ (j : Nat) r, lo ≤ j → j ≤ a → R[j]? = some r → r.known = 0) ∧ ∀ r, 0 < lo → R[lo - 1]? = some r → r.known ≠ 0
  | 0, r, hr, h0 => ⟨0, Nat.le_refl _, fun j s h1 h2 h3 => by
      have : j = 0 := by omega
      subst this; rw [hr] at h3; cases h3; exact h0, fun _ h => absurd h (by omega)⟩
  | a + 1, r, hr, h0 => by
    have hl : a < R.length := by have := (List.getElem?_eq_some_iff.mp hr).1; omega
    have hs : R[a]? = some R[a] := by simp [hl]
    by_cases q : R[a].known = 0
    · obtain ⟨lo, l1, l2, l3⟩ := left_run a _ hs q
      refine ⟨lo, by omega, fun j s h1 h2 h3 => ?_, l3⟩
      by_cases e : j = a + 1
      · subst e; rw [hr] at h3; cases h3; exact h0
      · exact l2 j s h1 (by omega) h3
    · refine ⟨a + 1, Nat.le_refl _, fun j s h1 h2 h3 => ?_, fun s _ h => ?_⟩
      · have : j = a + 1 := by omega
        subst this; rw [hr] at h3; cases h3; exact h0
      · rw [Nat.add_sub_cancel, hs] at h; cases h; exact q
theorem right_run {R : List Rw} : ∀ (k a : Nat) r, R.length = a + 1 + k → R[a]? = some r → r.known = 0 → ∃ hi, a ≤ hi ∧ hi < R.length ∧ (∀ (j : Nat) r, a ≤ j → j ≤ hi → R[j]? = some r → r.known = 0) ∧ ∀ r, R[hi + 1]? = some r → r.known ≠ 0
  | 0, a, r, hk, hr, h0 => ⟨a, Nat.le_refl _, by omega, fun j s h1 h2 h3 => by
      have : j = a := by omega
      subst this; rw [hr] at h3; cases h3; exact h0, fun s h => by have := (List.getElem?_eq_some_iff.mp h).1; omega⟩
  | k + 1, a, r, hk, hr, h0 => by
    have hs : R[a + 1]? = some R[a + 1] := by simp [show a + 1 < R.length by omega]
    by_cases q : R[a + 1].known = 0
    · obtain ⟨hi, l1, l2, l3, l4⟩ := right_run k (a + 1) _ (by omega) hs q
      refine ⟨hi, by omega, l2, fun j s h1 h2 h3 => ?_, l4⟩
      by_cases e : j = a
      · subst e; rw [hr] at h3; cases h3; exact h0
      · exact l3 j s (by omega) h2 h3
    · refine ⟨a, Nat.le_refl _, by omega, fun j s h1 h2 h3 => ?_, fun s h => ?_⟩
      · have : j = a := by omega
        subst this; rw [hr] at h3; cases h3; exact h0
      · rw [hs] at h; cases h; exact q
theorem run_ex {R : List Rw} {a : Nat} {r : Rw} (hr : R[a]? = some r) (h0 : r.known = 0) : ∃ lo hi, IsRun R lo hi ∧ lo ≤ a ∧ a ≤ hi := by
  have hl := (List.getElem?_eq_some_iff.mp hr).1
  obtain ⟨lo, l1, l2, l3⟩ := left_run a r hr h0
  obtain ⟨hi, r1, r2, r3, r4⟩ := right_run (R.length - a - 1) a r (by omega) hr h0
  refine ⟨lo, hi, ⟨by omega, r2, fun j s h1 h2 h3 => ?_, l3, r4⟩, l1, r1⟩
  rcases Nat.lt_or_ge j a with q | q
  · exact l2 j s h1 (by omega) h3
  · exact r3 j s q h2 h3
theorem gone_ex {R : List Rw} {a : Nat} {r : Rw} (hr : R[a]? = some r) : ∃ p R', Gone R r.hid a p R' := by
  by_cases h0 : r.known = 0
  · obtain ⟨lo, hi, N, h1, h2⟩ := run_ex hr h0
    exact ⟨hi, _, .unknown a r lo hi hr rfl h0 N h1 h2⟩
  · exact ⟨a, _, .known a r hr rfl h0⟩
theorem Gone.good {R R' : List Rw} {top uid : Int} {a p : Nat} (N : Gone R uid a p R') (A : Good R top) : Good R' top := by
  cases N with
  | known r _ _ _ => exact A.erase a
  | unknown r lo _ _ _ _ _ _ => exact (A.blank lo (p + 1)).erase a
theorem Gone.len {R R' : List Rw} {uid : Int} {a p : Nat} (N : Gone R uid a p R') : R'.length + 1 = R.length ∧ ∀ (i : Nat) , (R'[i]?).map (·.hid) = ((R.eraseIdx a)[i]?).map (·.hid) := by
  have hal : a < R.length := by obtain ⟨r, hr, _⟩ := N.row; exact (List.getElem?_eq_some_iff.mp hr).1
  cases N with
  | known r h1 _ _ => exact ⟨by rw [List.length_eraseIdx, if_pos hal]; omega, fun i => rfl⟩
  | unknown r lo _ h1 _ _ h4 _ _ =>
    refine ⟨by rw [List.length_eraseIdx, blankR_len, if_pos hal]; omega, fun i => ?_⟩
    have e : ∀ j : Nat, ((blankR R lo (p + 1))[j]?).map (·.hid) = (R[j]?).map (·.hid) := fun j => by
      rw [blankR_get]
      cases R[j]? with
      | none => rfl
      | some r => simp only [Option.map_some]; congr 1; split <;> rfl
    rw [List.getElem?_eraseIdx, List.getElem?_eraseIdx]
    split <;> exact e _
/-- where a hidden uid lies -/
theorem hid_idx {R : List Rw} {top : Int} (A : Good R top) : ∀ {a : Nat} {r : Rw}, R[a]? = some r → (R.map (·.hid)).idxOf r.hid = a := by
  have key : ∀ (l : List Rw) (a : Nat) r, (∀ (i j : Nat) x y, i < j → l[i]? = some x → l[j]? = some y → x.hid < y.hid) → l[a]? = some r → (l.map (·.hid)).idxOf r.hid = a := by
    intro l
    induction l with
    | nil => intro a r _ h; simp at h
    | cons x t ih =>
      intro a r asc h
      cases a with
      | zero => simp at h; subst h; simp [List.idxOf_cons]
      | succ a =>
        have h' : t[a]? = some r := by simpa using h
        have hlt := asc 0 (a + 1) x r (by omega) rfl h
        have hne : (x.hid == r.hid) = false := by simp; omega
        rw [List.map_cons, List.idxOf_cons, hne]
        simp only [cond_false]
        rw [ih a r (fun i j u v hij e1 e2 => asc (i + 1) (j + 1) u v (by omega) (by simpa using e1) (by simpa using e2)) h']
  intro a r h
  exact key R a r A.asc h
end Mine
end
section
set_option maxRecDepth 100000
set_option Elab.async false
set_option linter.unusedVariables false
set_option maxHeartbeats 4000000
namespace Mine
open PySem PySem.W PySem.Calls PyProof.Rows
/-! small lists of small ints may be laid -/
theorem weight_small {i : Int} (h0 : 0 ≤ i) (h1 : i ≤ 50000) : PyData.weight (.int i) ≤ 17 := by
  unfold PyData.weight
  split
  · omega
  · rename_i q
    rw [beq_iff_eq] at q
    have : i.natAbs.log2 < 16 := (Nat.log2_lt (by omega)).mpr (by omega)
    omega
theorem lay_ints : ∀ (ns : List Int), (∀ i ∈ ns, 0 ≤ i ∧ i ≤ 50000) → PyData.canLayAll0 (ns.map .int) = true ∧ PyData.depthAll (ns.map .int) = 0 ∧ PyData.weightAll (ns.map .int) ≤ 18 * ns.length
  | [], _ => ⟨rfl, rfl, by simp [PyData.weightAll]⟩
  | i :: r, h => by
    obtain ⟨a, b, c⟩ := lay_ints r fun x hx => h x (.tail _ hx)
    have w := weight_small (h i (.head _)).1 (h i (.head _)).2
    refine ⟨by rw [List.map_cons, PyData.canLayAll0, a]; rfl, by rw [List.map_cons, PyData.depthAll, b]; rfl, ?_⟩
    rw [List.map_cons, PyData.weightAll, List.length_cons]; omega
theorem lay_small {ns : List Int} (h : ∀ i ∈ ns, 0 ≤ i ∧ i ≤ 50000) (hz : ns.length ≤ 1000) : PyData.layable0 (.list (ns.map .int)) = true := by
  obtain ⟨a, b, c⟩ := lay_ints ns h
  unfold PyData.layable0
  rw [Bool.and_eq_true, Bool.and_eq_true]
  refine ⟨⟨by rw [PyData.canLay0]; exact a, decide_eq_true ?_⟩, decide_eq_true ?_⟩
  · rw [PyData.depth, b]; decide
  · rw [PyData.weight]; omega
/-! rows -/
theorem RowsA.set {H H' : AH} {hs : List Addr} {R : List Rw} {i : Nat} {h : Addr} {r' : Rw} (X : RowsA H hs R) (I : Inj hs) (hi : hs[i]? = some h) (k : Keep (fun x => x = h) H H') (hT : ∀ vs, H h ≠ some (.tup vs)) (h' : RowAt H' h r') : RowsA H' hs (R.set i r') := by
  refine ⟨by rw [List.length_set]; exact X.len, fun j g r e1 e2 => ?_⟩
  rw [List.getElem?_set] at e2
  split at e2
  · rename_i q
    subst q
    split at e2
    · cases e2; rw [hi] at e1; cases e1; exact h'
    · cases e2
  · rename_i q
    refine (X.at_ j g r e1 e2).keep k (fun x vs e z => hT vs (z ▸ e)) fun z => ?_
    subst z
    exact q (I i j _ hi e1)
theorem RowsA.erase {H : AH} {hs : List Addr} {R : List Rw} (X : RowsA H hs R) {a : Nat} (ha : a < R.length) : RowsA H (hs.eraseIdx a) (R.eraseIdx a) := by
  have hl := X.len
  refine ⟨by rw [List.length_eraseIdx, List.length_eraseIdx, hl], fun i h r e1 e2 => ?_⟩
  rw [List.getElem?_eraseIdx] at e1 e2
  split at e1 <;> rename_i q
  · rw [if_pos q] at e2; exact X.at_ i h r e1 e2
  · rw [if_neg q] at e2; exact X.at_ _ h r e1 e2
theorem RowsA.app {H : AH} {hs hs' : List Addr} {R R' : List Rw} (X : RowsA H hs R) (Y : RowsA H hs' R') : RowsA H (hs ++ hs') (R ++ R') := by
  refine ⟨by rw [List.length_append, List.length_append, X.len, Y.len], fun i h r e1 e2 => ?_⟩
  by_cases q : i < hs.length
  · rw [List.getElem?_append_left q] at e1
    rw [List.getElem?_append_left (by rw [← X.len]; exact q)] at e2
    exact X.at_ i h r e1 e2
  · rw [List.getElem?_append_right (by omega)] at e1
    rw [List.getElem?_append_right (by rw [← X.len]; omega)] at e2
    exact Y.at_ _ h r e1 (by rw [X.len]; exact e2)
/-- the list of the rows is none of the rows -/
theorem RowsA.notIn {H : AH} {LR : Addr} {ls hs : List Addr} {R : List Rw} (X : RowsA H ls R) (h : H LR = some (.list (refs hs))) : LR ∉ ls := fun z => by
  obtain ⟨i, hi⟩ := List.getElem?_of_mem z
  obtain ⟨r, hr, fv, _, ho⟩ := X.both hi
  rw [h] at ho
  cases hs <;> simp [refs, rowO] at ho
theorem blankR_none {R : List Rw} {l : Nat} : blankR R l l = R := by
  apply List.ext_getElem?
  intro i
  rw [blankR_get]
  cases R[i]? with
  | none => rfl
  | some r => rw [Option.map_some, if_neg (by omega)]
theorem blankR_succ {R : List Rw} {lo t : Nat} {r : Rw} (hl : lo ≤ t) (hr : R[t]? = some r) : blankR R lo (t + 1) = (blankR R lo t).set t (blankRw r) := by
  apply List.ext_getElem?
  intro i
  rw [List.getElem?_set, blankR_get, blankR_get, blankR_len]
  have ht := (List.getElem?_eq_some_iff.mp hr).1
  by_cases e : t = i
  · subst e
    rw [if_pos rfl, if_pos ht, hr, Option.map_some, if_pos (by omega)]
  · rw [if_neg e]
    congr 1
    funext x
    by_cases q : lo ≤ i ∧ i < t
    · rw [if_pos q, if_pos (by omega)]
    · rw [if_neg q, if_neg (by omega)]
section
variable {P : Params} {C : Cx} {env : Env} {σ : St}
theorem law_row {LR : Addr} {ls : List Addr} {e ix : Expr} {sp : Pos} {k : Int} {t : Tok} {i : Nat} {l : Addr} (he : Pe C env e σ (.ref LR)) (hi : Pe C env ix σ (.int k t)) (hL : σ.H LR = some (.list (refs ls))) (hk : k = i) (hl : ls[i]? = some l) (hz : i < 2000)
    (hs : ∀ o i, subscripted ix false o i = operate [o, i] (getItem o i) := by intro _ _; rfl) : Pe C env (.Subscript e ix sp) σ (.ref l) :=
  Pe.item he hi hL (by omega) (by omega) (by rw [hk]; exact refs_at hl) hs
theorem law_known {LR : Addr} {ls : List Addr} {R : List Rw} {e ix : Expr} {sp sp2 cp : Pos} {kk : Nat} {k : Int} {t : Tok} {i : Nat} {r : Rw} (he : Pe C env e σ (.ref LR)) (hi : Pe C env ix σ (.int k t)) (hL : σ.H LR = some (.list (refs ls))) (X : RowsA σ.H ls R) (hk : k = i) (hr : R[i]? = some r) (hz : R.length ≤ 1000)
    (hs : ∀ o i, subscripted ix false o i = operate [o, i] (getItem o i) := by intro _ _; rfl) : Pe C env (.Subscript (.Subscript e ix sp) (.Constant (.int 1) kk cp) sp2) σ (.int r.known 0) := by
  obtain ⟨l, hl, fv, hf, ho⟩ := X.both' hr
  have := (List.getElem?_eq_some_iff.mp hr).1
  exact Pe.item (law_row he hi hL hk hl (by omega) hs) Pe.int ho (by decide) (by decide) (by rfl)
end
section
variable {C : Cx} {env : Env} {σ : St} {names : List (Str × NameKind)} {cl : List (Str × Addr)}
theorem EnvIs.block {L : Addr} (E : EnvIs env L names cl) : env.blockKind = .function := by
  unfold Env.blockKind
  rw [E.kind]; rfl
end
/-- two local names from two names: the stores are swapped -/
theorem swapped_vars {env : Env} {x y u v : Str} {px py tp pu pv tv : Pos} {kk kv : Nat} (hx : env.kindOf x = some .local) (hy : env.kindOf y = some .local) (hb : env.blockKind = .function) (hxy : (py.line == px.line && (![x, y].eraseDups.length != 2)) = true) (hd : (u == ("__debug__" : Str)) = false) :
    swappedStores [.Tuple [.Name x px, .Name y py] kk tp] (.Tuple [.Name u pu, .Name v pv] kv tv) env = pure (some [x, y]) := by
  simp only [Bool.and_eq_true, Bool.not_eq_true', bne_eq_false_iff_eq, beq_iff_eq] at hxy
  have e1 : (Expr.Name x px).pos = px := rfl
  have e2 : ∀ p, foldedForSure 8 (.Name u p) = false := fun _ => rfl
  have e3 : ∀ p, constantsAlone 8 (.Name u p) = false := fun _ => hd
  unfold swappedStores
  simp [hx, hy, hb, hxy.1, hxy.2, e1, e2, e3]
noncomputable def vb : List Stmt := match (bodyF 32)[(1 : Nat)]? with | some (Stmt.If _ b _ _) => b | _ => []
noncomputable def vbS (j : Nat) : Stmt := match vb[j]? with | some s => s | none => .Break ⟨0, 0, 0, 0⟩
section
variable {P : Params} {C : Cx} {env : Env} {m : Str → Option Value} {H : AH} {Ψ : Flow → St → Prop} {LR : Addr} {ls : List Addr} {R : List Rw} {lo p a : Nat}
theorem vanish_left (G : Gr P C.b) (E : EnvIs env C.L n_law_vanish []) (hL : H LR = some (.list (refs ls))) (X : RowsA H ls R) (hz : R.length ≤ 1000) (N : IsRun R lo p) (h5 : lo ≤ a) (h6 : a ≤ p) (m1 : m "low" = some (.int a 0)) (m2 : m "high" = some (.int a 0)) (m3 : m "rows" = some (.ref LR)) (m4 : m "at" = some (.int a 0)) {st : Stmt} (hst : st = vbS 1)
    (k : ∀ m' : Str → Option Value, m' "low" = some (.int lo 0) → m' "high" = some (.int a 0) → m' "rows" = some (.ref LR) → m' "at" = some (.int a 0) → Ψ .next ⟨m', H⟩) : Ex C env st ⟨m, H⟩ Ψ := by
  subst hst
  have hlt := N.lt
  refine Ex.while_ (fun n σ' => ∃ l : Nat, lo ≤ l ∧ l ≤ a ∧ n = l - lo ∧ σ'.m "low" = some (.int l 0) ∧ σ'.m "high" = some (.int a 0) ∧ σ'.m "rows" = some (.ref LR) ∧ σ'.m "at" = some (.int a 0) ∧ σ'.H = H) (a - lo)
    ⟨a, h5, Nat.le_refl _, rfl, m1, m2, m3, m4, rfl⟩ ?_
  rintro nn ⟨m', H'⟩ ⟨l, q1, q2, rfl, m1, m2, m3, m4, eH⟩
  dsimp only at eH
  subst H'
  have hl0 : l < R.length := by omega
  by_cases hl : l = lo
  · subst hl
    refine Pt.it (x := false) ?_ ?_
    · by_cases h0 : l = 0
      · refine Pt.and2 (x := false) (y := false) (Pt.to (Pt.cmp (Pe.l E (by rfl) m1 (by rfl)) Pe.int CmpTo.gt (by rfl)) (by rw [h0]; rfl)) fun q => absurd q (by decide)
      · have hr : R[l - 1]? = some R[l - 1] := by simp [show l - 1 < R.length by omega]
        have hne := N.left _ (by omega) hr
        refine Pt.to (Pt.and2 (x := true) (y := false) (Pt.to (Pt.cmp (Pe.l E (by rfl) m1 (by rfl)) Pe.int CmpTo.gt (by rfl)) (by simp; omega)) fun _ => ?_) rfl
        exact Pt.to (Pt.cmp (law_known (i := l - 1) (Pe.l E (by rfl) m3 (by rfl)) (Pe.binop (Pe.l E (by rfl) m1 (by rfl)) Pe.int OpTo.sub) hL X (by omega) hr hz) Pe.int CmpTo.eq (by rfl)) (by rw [beq_eq_false_iff_ne]; exact hne)
    rw [if_neg (by decide)]
    exact k _ m1 m2 m3 m4
  · have hr : R[l - 1]? = some R[l - 1] := by simp [show l - 1 < R.length by omega]
    have h0 := N.zero (l - 1) _ (by omega) (by omega) hr
    refine Pt.it (x := true) (Pt.to (Pt.and2 (x := true) (y := true) (Pt.to (Pt.cmp (Pe.l E (by rfl) m1 (by rfl)) Pe.int CmpTo.gt (by rfl)) (by simp; omega)) fun _ =>
      Pt.to (Pt.cmp (law_known (i := l - 1) (Pe.l E (by rfl) m3 (by rfl)) (Pe.binop (Pe.l E (by rfl) m1 (by rfl)) Pe.int OpTo.sub) hL X (by omega) hr hz) Pe.int CmpTo.eq (by rfl)) (by rw [beq_iff_eq]; exact h0)) rfl) ?_
    rw [if_pos rfl]
    refine Exs.cons (Ex.assign rfl E.kind (E.kinds _ _ (by rfl)) E.loc (Pe.ev (Pe.binop (Pe.l E (by rfl) m1 (by rfl)) Pe.int OpTo.sub) (Exs.nil ⟨l - 1 - lo, by omega, l - 1, by omega, by omega, rfl, ?_, pm_ne (by rfl) m2, pm_ne (by rfl) m3, pm_ne (by rfl) m4, rfl⟩)))
    have e : (l : Int) - 1 = ((l - 1 : Nat) : Int) := by omega
    rw [e]
    exact pm_self
theorem vanish_right (G : Gr P C.b) (E : EnvIs env C.L n_law_vanish []) (hL : H LR = some (.list (refs ls))) (X : RowsA H ls R) (hz : R.length ≤ 1000) (N : IsRun R lo p) (h5 : lo ≤ a) (h6 : a ≤ p) (m1 : m "low" = some (.int lo 0)) (m2 : m "high" = some (.int a 0)) (m3 : m "rows" = some (.ref LR)) (m4 : m "at" = some (.int a 0)) {st : Stmt} (hst : st = vbS 2)
    (k : ∀ m' : Str → Option Value, m' "low" = some (.int lo 0) → m' "high" = some (.int p 0) → m' "rows" = some (.ref LR) → m' "at" = some (.int a 0) → Ψ .next ⟨m', H⟩) : Ex C env st ⟨m, H⟩ Ψ := by
  subst hst
  have hlt := N.lt
  have hlen : (refs ls).length = R.length := by rw [refs_len, X.len]
  refine Ex.while_ (fun n σ' => ∃ h : Nat, a ≤ h ∧ h ≤ p ∧ n = p - h ∧ σ'.m "high" = some (.int h 0) ∧ σ'.m "low" = some (.int lo 0) ∧ σ'.m "rows" = some (.ref LR) ∧ σ'.m "at" = some (.int a 0) ∧ σ'.H = H) (p - a)
    ⟨a, Nat.le_refl _, h6, rfl, m2, m1, m3, m4, rfl⟩ ?_
  rintro nn ⟨m'', H'⟩ ⟨h, q3, q4, rfl, n1, n2, n3, n4, eH⟩
  dsimp only at eH
  subst H'
  have hz2 : (refs ls).length ≤ 100000 := by omega
  by_cases hh : h = p
  · subst hh
    refine Pt.it (x := false) ?_ ?_
    · by_cases he : h + 1 = R.length
      · refine Pt.and2 (x := false) (y := false) (Pt.to (Pt.cmp (Pe.binop (Pe.l E (by rfl) n1 (by rfl)) Pe.int OpTo.add) (call_len G E (by rfl) (Pe.l E (by rfl) n3 (by rfl)) hL hz2) CmpTo.lt (by rfl)) (by rw [hlen]; simp; omega)) fun q => absurd q (by decide)
      · have hr : R[h + 1]? = some R[h + 1] := by simp [show h + 1 < R.length by omega]
        have hne := N.right _ hr
        refine Pt.to (Pt.and2 (x := true) (y := false) (Pt.to (Pt.cmp (Pe.binop (Pe.l E (by rfl) n1 (by rfl)) Pe.int OpTo.add) (call_len G E (by rfl) (Pe.l E (by rfl) n3 (by rfl)) hL hz2) CmpTo.lt (by rfl)) (by rw [hlen]; simp; omega)) fun _ => ?_) rfl
        exact Pt.to (Pt.cmp (law_known (i := h + 1) (Pe.l E (by rfl) n3 (by rfl)) (Pe.binop (Pe.l E (by rfl) n1 (by rfl)) Pe.int OpTo.add) hL X rfl hr hz) Pe.int CmpTo.eq (by rfl)) (by rw [beq_eq_false_iff_ne]; exact hne)
    rw [if_neg (by decide)]
    exact k _ n2 n1 n3 n4
  · have hr : R[h + 1]? = some R[h + 1] := by simp [show h + 1 < R.length by omega]
    have h0 := N.zero (h + 1) _ (by omega) (by omega) hr
    refine Pt.it (x := true) (Pt.to (Pt.and2 (x := true) (y := true) (Pt.to (Pt.cmp (Pe.binop (Pe.l E (by rfl) n1 (by rfl)) Pe.int OpTo.add) (call_len G E (by rfl) (Pe.l E (by rfl) n3 (by rfl)) hL hz2) CmpTo.lt (by rfl)) (by rw [hlen]; simp; omega)) fun _ =>
      Pt.to (Pt.cmp (law_known (i := h + 1) (Pe.l E (by rfl) n3 (by rfl)) (Pe.binop (Pe.l E (by rfl) n1 (by rfl)) Pe.int OpTo.add) hL X rfl hr hz) Pe.int CmpTo.eq (by rfl)) (by rw [beq_iff_eq]; exact h0)) rfl) ?_
    rw [if_pos rfl]
    exact Exs.cons (Ex.assign rfl E.kind (E.kinds _ _ (by rfl)) E.loc (Pe.ev (Pe.binop (Pe.l E (by rfl) n1 (by rfl)) Pe.int OpTo.add) (Exs.nil ⟨p - (h + 1), by omega, h + 1, by omega, by omega, rfl, pm_self, pm_ne (by rfl) n2, pm_ne (by rfl) n3, pm_ne (by rfl) n4, rfl⟩)))
theorem vanish_blur (G : Gr P C.b) (ok : OkA C.A 1) (E : EnvIs env C.L n_law_vanish []) (hL : H LR = some (.list (refs ls))) (X : RowsA H ls R) (I : Inj ls) (hz : R.length ≤ 1000) (N : IsRun R lo p) (m1 : m "low" = some (.int lo 0)) (m2 : m "high" = some (.int p 0)) (m3 : m "rows" = some (.ref LR)) (m4 : m "at" = some (.int a 0)) {st : Stmt} (hst : st = vbS 3)
    (k : ∀ (m' : Str → Option Value) H', m' "rows" = some (.ref LR) → m' "at" = some (.int a 0) → Keep (fun x => x ∈ ls) H H' → (∀ x, H' x = none → H x = none) → RowsA H' ls (blankR R lo (p + 1)) → Ψ .next ⟨m', H'⟩) : Ex C env st ⟨m, H⟩ Ψ := by
  subst hst
  have hlt := N.lt
  have hle := N.le
  have hlen := X.len
  have hLn := X.notIn hL
  refine Ex.forR ok.hd E (by rfl) ?_
  refine Ev.call G (Pe.ev (nm_range E G (by rfl)) ⟨.inr (.inl ⟨_, rfl⟩), ?_⟩)
  refine As.cons (Pe.ev (Pe.l E (by rfl) m1 (by rfl)) (As.cons (Pe.ev (Pe.binop (Pe.l E (by rfl) m2 (by rfl)) Pe.int OpTo.add) (As.nil (CallTo.range2 fun r hr => ?_)))))
  have k2 : Same H (upd H r (.range lo (p + 1))) := same_new hr
  refine ⟨r, lo, p + 1 - lo, rfl, by dsimp only; rw [upd_self]; congr 2; omega, by omega, by omega, by omega, fun i σ' => σ'.m "rows" = some (.ref LR) ∧ σ'.m "at" = some (.int a 0) ∧ Keep (fun x => x ∈ ls) H σ'.H ∧ (∀ x, σ'.H x = none → H x = none) ∧ RowsA σ'.H ls (blankR R lo (lo + i)), ⟨m3, m4, Same.weak k2, fun x hx => k2.none hx, ?_⟩, ?_, ?_⟩
  · rw [Nat.add_zero, blankR_none]; exact X.same k2
  · rintro F i ⟨m', H'⟩ hi ⟨o1, o2, k3, lv, X3⟩
    dsimp only at o1 o2 k3 lv X3
    have hti : lo + i < R.length := by omega
    obtain ⟨g, hg⟩ : ∃ g, ls[lo + i]? = some g := ⟨ls[lo + i]'(by omega), by simp [show lo + i < ls.length by omega]⟩
    have hgm : g ∈ ls := List.mem_of_getElem? hg
    have hL3 : H' LR = some (.list (refs ls)) := k3.get hL hLn
    obtain ⟨rt, hrt, fv, hf, ho⟩ := X3.both hg
    have hgL : LR ≠ g := fun z => hLn (z ▸ hgm)
    have hz2 : lo + i < 2000 := by omega
    refine Exs.cons (Ex.setitem rfl (Pe.ev Pe.none_ (Pe.ev (law_row (Pe.l E (by rfl) (pm_ne (by rfl) o1) (by rfl)) (Pe.l E (by rfl) pm_self (by rfl)) hL3 (Int.natCast_add _ _).symm hg hz2) (Pe.ev Pe.int ⟨g, _, 2, 0, rfl, rfl, ho, by decide, by simp, by decide, ?_⟩))))
    refine Exs.cons (Ex.setitem rfl (Pe.ev Pe.int (Pe.ev (law_row (Pe.l E (by rfl) (pm_ne (by rfl) o1) (by rfl)) (Pe.l E (by rfl) pm_self (by rfl)) (by dsimp only; rw [upd_ne hgL]; exact hL3) (Int.natCast_add _ _).symm hg hz2) (Pe.ev Pe.int ⟨g, _, 3, 0, rfl, rfl, upd_self _ _ _, by decide, by simp, by decide, ?_⟩))))
    rw [upd_upd]
    refine Exs.nil ⟨pm_ne (by rfl) o1, pm_ne (by rfl) o2, k3.trans (Keep.upd hgm), fun x hx => lv x ?_, ?_⟩
    · by_cases z : x = g
      · subst z; dsimp only at hx; rw [upd_self] at hx; cases hx
      · dsimp only at hx; rw [upd_ne z] at hx; exact hx
    · have hRt : R[lo + i]? = some R[lo + i] := by simp [hti]
      rw [blankR_get, hRt, Option.map_some, if_neg (by omega)] at hrt
      cases hrt
      rw [← Nat.add_assoc, blankR_succ (Nat.le_add_right _ _) hRt]
      exact X3.set I hg (Keep.upd rfl) (fun vs e => by rw [ho] at e; cases e) ⟨.none, rfl, upd_self _ _ _⟩
  · intro σ' ⟨o1, o2, k3, lv, X3⟩
    rw [show lo + (p + 1 - lo) = p + 1 by omega] at X3
    exact k _ _ o1 o2 k3 lv X3
end
section
variable {P : Params} {C : Cx} {σ : St} {Φ : Value → St → Prop}
theorem law_vanish_spec (G : Gr P C.b) (ok : OkA C.A 2) {LR : Addr} {ls : List Addr} {R R' : List Rw} {top uid : Int} {a p : Nat} (hL : σ.H LR = some (.list (refs ls))) (X : RowsA σ.H ls R) (I : Inj ls) (A : Good R top) (htop : top ≤ 50000) (hz : R.length ≤ 1000) (N : Gone R uid a p R')
    (k : ∀ H', Keep (fun x => x = LR ∨ x ∈ ls) σ.H H' → (∀ x, H' x = none → σ.H x = none) → H' LR = some (.list (refs (ls.eraseIdx a))) → RowsA H' (ls.eraseIdx a) R' → Φ .none ⟨σ.m, H'⟩) : CodeTo C (.ref 322) [.ref LR, .int uid 0] σ Φ := by
  refine (f_law_vanish P).call G ok (bind2 (n1 := "rows") (n2 := "uid") (fun x y => by kernel_rfl) (by kernel_rfl) (by kernel_rfl)) fun b L env Gb okb E => ?_
  have hlen := X.len
  obtain ⟨ra, hra, hid⟩ := N.row
  subst hid
  have hal := (List.getElem?_eq_some_iff.mp hra).1
  have hLn := X.notIn hL
  refine Exs.cons (Ex.assign rfl E.kind (E.kinds _ _ (by rfl)) E.loc ?_)
  refine Ev.lmeth Gb PySem.F.slot_list_index PySem.F.type_list_index ?_
  refine Ev.compPL (C := C.call env b L) Gb okb.hd [("row", .local)] E (cl := []) (Nat.zero_le _) rfl (by decide) rfl (by decide) (by rfl) (by rfl) ?_
  refine Pe.ev (Pe.l E (by rfl) (by rfl) (by rfl)) ⟨LR, refs ls, fun j => (R[j]?).map fun r => .int r.hid 0, rfl, hL, len_k (by rw [refs_len]; omega), fun b' L' F j v m env' Gb' Ec hv => ?_, fun n hn => ?_⟩
  · obtain ⟨l, hl, rfl⟩ := refs_get hv
    obtain ⟨r, hr, fv, hf, ho⟩ := X.both hl
    dsimp only
    rw [hr]
    exact PureElt.one (Pe.item (Pe.lm Ec (by rfl) (by rfl)) Pe.int ho (by decide) (by decide) (by rfl))
  rw [refs_len, hlen, filterMap_map]
  have e1 : R.map (fun r => Value.int r.hid 0) = (R.map (·.hid)).map fun i => Value.int i 0 := by rw [List.map_map]; rfl
  rw [e1]
  have hidx := hid_idx A hra
  refine ⟨n, _, rfl, upd_self _ _ _, As.cons (Pe.ev (Pe.l E (by rfl) (by rfl) (by rfl)) (As.nil (CallTo.index (upd_self _ _ _) ?_ ?_ ?_)))⟩
  · exact List.mem_map.mpr ⟨ra, List.mem_of_getElem? hra, rfl⟩
  · refine lay_small (fun i hi => ?_) (by rw [List.length_map]; exact hz)
    obtain ⟨r, hr, rfl⟩ := List.mem_map.mp hi
    obtain ⟨j, hj⟩ := List.getElem?_of_mem hr
    have := A.pos j r hj
    omega
  rw [hidx]
  have k0 : Same σ.H (upd σ.H n (.list ((R.map (·.hid)).map fun i => Value.int i 0))) := same_new hn
  show Exs (C.call env b L) env _ ⟨putM (fun x => List.lookup x [(("rows" : Str), Value.ref LR), ("uid", .int ra.hid 0)].reverse) "at" (.int a 0), upd σ.H n _⟩ _
  generalize upd σ.H n (.list ((R.map (·.hid)).map fun i => Value.int i 0)) = H0 at k0
  have hL0 := k0.at hL
  have X0 := X.same k0
  -- what is known behind the middle
  refine Exs.cons (Ex.mono (Φ := fun f σ' => f = .next ∧ σ'.m "rows" = some (.ref LR) ∧ σ'.m "at" = some (.int a 0) ∧ Keep (fun x => x ∈ ls) H0 σ'.H ∧ (∀ x, σ'.H x = none → H0 x = none) ∧ ∃ R2, RowsA σ'.H ls R2 ∧ R' = R2.eraseIdx a ∧ R2.length = R.length) ?_ ?_)
  · cases N with
    | known r h1 h2 h3 =>
      refine Ex.ifP (c := false) (Pt.to (Pt.cmp (law_known (Pe.l E (by rfl) (pm_ne (by rfl) (by rfl)) (by rfl)) (Pe.l E (by rfl) pm_self (by rfl)) hL0 X0 rfl h1 hz) Pe.int CmpTo.eq (by rfl)) (by simpa using h3)) (fun q => absurd q (by decide)) fun _ => Exs.nil ?_
      exact ⟨rfl, pm_ne (by rfl) (by rfl), pm_self, Keep.refl, fun x hx => hx, R, X0, rfl, rfl⟩
    | unknown r lo _ h1 h2 h3 h4 h5 h6 =>
      have hpl := h4.lt
      refine Ex.ifP (c := true) (Pt.to (Pt.cmp (law_known (Pe.l E (by rfl) (pm_ne (by rfl) (by rfl)) (by rfl)) (Pe.l E (by rfl) pm_self (by rfl)) hL0 X0 rfl h1 hz) Pe.int CmpTo.eq (by rfl)) (by simpa using h3)) (fun _ => ?_) fun q => absurd q (by decide)
      refine Exs.cons (Ex.assign2s (x := "low") (y := "high") rfl (swapped_vars (E.kinds _ _ (by rfl)) (E.kinds _ _ (by rfl)) E.block (by rfl) (by rfl)) okb.hd (Ev.tuple (As.cons (Pe.ev (Pe.l E (by rfl) pm_self (by rfl)) (As.cons (Pe.ev (Pe.l E (by rfl) pm_self (by rfl)) (As.nil ⟨len_small (by rfl), fun t ht => ?_⟩)))))))
      refine ⟨t, _, _, rfl, upd_self _ _ _, fun va vb ea eb => ?_⟩
      refine tr_store E.kind (E.kinds _ _ (by rfl)) E.loc (tr_store E.kind (E.kinds _ _ (by rfl)) E.loc ?_)
      rw [ea, eb]
      have k1 : Same H0 (upd H0 t (.tup [.int a 0, .int a 0])) := same_new ht
      dsimp only
      generalize upd H0 t (.tup [.int a 0, .int a 0]) = H1 at k1
      have hL1 := k1.at hL0
      have X1 := X0.same k1
      obtain ⟨m5, em, p1, p2, p3, p4⟩ : ∃ m5, m5 = putM (putM (putM (fun x => List.lookup x [(("rows" : Str), Value.ref LR), ("uid", .int ra.hid 0)].reverse) "at" (.int a 0)) "high" (.int a 0)) "low" (.int a 0) ∧ m5 "low" = some (.int a 0) ∧ m5 "high" = some (.int a 0) ∧ m5 "rows" = some (.ref LR) ∧ m5 "at" = some (.int a 0) := ⟨_, rfl, by rfl, by rfl, by rfl, by rfl⟩
      rw [← em]
      refine Exs.cons ?_
      refine vanish_left (C := C.call env b L) Gb E hL1 X1 hz h4 h5 h6 p1 p2 p3 p4 rfl fun m6 a1 a2 a3 a4 => ?_
      refine Exs.cons ?_
      refine vanish_right (C := C.call env b L) Gb E hL1 X1 hz h4 h5 h6 a1 a2 a3 a4 rfl fun m7 b1 b2 b3 b4 => ?_
      refine Exs.cons ?_
      refine vanish_blur (C := C.call env b L) Gb (by exact okb) E hL1 X1 I hz h4 b1 b2 b3 b4 rfl fun m8 H8 c1 c2 k3 lv X3 => ?_
      exact Exs.nil ⟨rfl, c1, c2, (Same.weak k1).trans k3, fun x hx => k1.none (lv x hx), _, X3, rfl, by rw [blankR_len]⟩
  rintro f ⟨m5, H5⟩ ⟨rfl, o1, o2, k3, lv, R2, X3, eR, hl2⟩
  dsimp only at o1 o2 k3 lv X3
  have hL3 : H5 LR = some (.list (refs ls)) := k3.get hL0 hLn
  have hla : a < ls.length := by omega
  refine Exs.cons (Ex.expr ?_ E.quiet rfl)
  refine Ev.lmeth Gb PySem.F.slot_list_pop PySem.F.type_list_pop (Pe.ev (Pe.l E (by rfl) o1 (by rfl)) ⟨LR, _, rfl, hL3, As.cons (Pe.ev (Pe.l E (by rfl) o2 (by rfl)) (As.nil ?_))⟩)
  refine CallTo.pop (v := .ref ls[a]) hL3 (by omega) (by omega) (by rw [Int.toNat_natCast]; exact refs_at (by simp [hla])) (len_k (by rw [refs_len]; omega)) (Exs.nil ?_)
  rw [Int.toNat_natCast, refs_erase]
  have kk : Keep (fun x => x = LR ∨ x ∈ ls) σ.H (upd H5 LR (.list (refs (ls.eraseIdx a)))) := ((Same.weak k0).trans (k3.weak fun x z => .inr z)).trans (Keep.upd (.inl rfl))
  refine k _ kk (fun x hx => ?_) (upd_self _ _ _) ?_
  · by_cases z : x = LR
    · subst z; dsimp only at hx; rw [upd_self] at hx; cases hx
    · dsimp only at hx; rw [upd_ne z] at hx; exact k0.none (lv x hx)
  · rw [eR]
    have X4 := X3.keep (S := fun x => x = LR) (H' := upd H5 LR (.list (refs (ls.eraseIdx a)))) (Keep.upd rfl) (fun x vs e z => by rw [z, hL3] at e; cases e) fun h hh z => hLn (z ▸ hh)
    exact X4.erase (by omega)
end
end Mine
end
section
set_option maxRecDepth 100000
set_option Elab.async false
set_option linter.unusedVariables false
namespace Mine
open PySem PySem.W PySem.Calls PyProof.Rows
/-! uids that vanish one behind the other -/
theorem vanish_seq {top : Int} : ∀ (us : List Int) (R : List Rw), Good R top → us.Pairwise (· < ·) → (∀ u ∈ us, ∃ (i : Nat) (r : Rw), R[i]? = some r ∧ r.hid = u) →
    ∃ Rs : Nat → List Rw, Rs 0 = R ∧ us.length ≤ R.length ∧ (∀ (i : Nat) u, us[i]? = some u → Good (Rs i) top ∧ ∃ a p, Gone (Rs i) u a p (Rs (i + 1))) ∧ ∀ i, i ≤ us.length → Good (Rs i) top ∧ (Rs i).length ≤ R.length
  | [], R, A, _, _ => ⟨fun _ => R, rfl, Nat.zero_le _, fun i u h => by simp at h, fun i _ => ⟨A, Nat.le_refl _⟩⟩
  | u :: t, R, A, hp, hm => by
    obtain ⟨i, r, hr, rfl⟩ := hm u (.head _)
    obtain ⟨p, R', N⟩ := gone_ex hr
    obtain ⟨l1, l2⟩ := N.len
    obtain ⟨h1, h2⟩ := List.pairwise_cons.mp hp
    obtain ⟨Rs, e0, e1, e2, e3⟩ := vanish_seq t R' (N.good A) h2 fun v hv => by
      obtain ⟨j, s, hs, rfl⟩ := hm v (.tail _ hv)
      have hlt := h1 _ hv
      have hji : j ≠ i := fun z => by subst z; rw [hr] at hs; cases hs; exact absurd hlt (Int.lt_irrefl _)
      have key : ((R.eraseIdx i)[if j < i then j else j - 1]?) = some s := by
        rw [List.getElem?_eraseIdx]
        by_cases q : j < i
        · rw [if_pos q, if_pos q]; exact hs
        · rw [if_neg q, if_neg (by omega), show j - 1 + 1 = j by omega]; exact hs
      have := l2 (if j < i then j else j - 1)
      rw [key] at this
      obtain ⟨s', hs', e⟩ := Option.map_eq_some_iff.mp this
      exact ⟨_, s', hs', e⟩
    refine ⟨fun n => match n with | 0 => R | n + 1 => Rs n, rfl, by rw [List.length_cons]; omega, fun j v hv => ?_, fun j hj => ?_⟩
    · cases j with
      | zero => simp at hv; subst hv; exact ⟨A, i, p, by show Gone R r.hid i p (Rs 0); rw [e0]; exact N⟩
      | succ j => exact e2 j v (by simpa using hv)
    · cases j with
      | zero => exact ⟨A, Nat.le_refl _⟩
      | succ j => obtain ⟨a, b⟩ := e3 j (by rw [List.length_cons] at hj; omega); exact ⟨a, by show (Rs j).length ≤ _; omega⟩
theorem asc_of {us : List Int} (h : us.Pairwise (· < ·)) (h1 : ∀ u ∈ us, 1 ≤ u) : Asc (us.map fun u => (u, u)) := by
  refine ⟨fun i p hp => ?_, fun i p q hp hq => ?_⟩
  · rw [List.getElem?_map] at hp
    obtain ⟨u, hu, rfl⟩ := Option.map_eq_some_iff.mp hp
    exact ⟨h1 u (List.mem_of_getElem? hu), Int.le_refl _⟩
  · rw [List.getElem?_map] at hp hq
    obtain ⟨u, hu, rfl⟩ := Option.map_eq_some_iff.mp hp
    obtain ⟨v, hv, rfl⟩ := Option.map_eq_some_iff.mp hq
    obtain ⟨a1, a2⟩ := List.getElem?_eq_some_iff.mp hu
    obtain ⟨b1, b2⟩ := List.getElem?_eq_some_iff.mp hv
    have := List.pairwise_iff_getElem.mp h i (i + 1) a1 b1 (by omega)
    rw [a2, b2] at this
    exact this
def goneF (R : List Rw) (b : Nat → Bool) (i : Nat) : Option Int := (R[i]?).bind fun r => if b i then some r.hid else none
theorem goneF_mem {R : List Rw} {b : Nat → Bool} {n : Nat} {u : Int} (h : u ∈ ((List.range n).filterMap (goneF R b)).take 3) : ∃ (i : Nat) (r : Rw), R[i]? = some r ∧ r.hid = u := by
  obtain ⟨i, _, hi⟩ := List.mem_filterMap.mp (List.mem_of_mem_take h)
  obtain ⟨r, hr, e⟩ := Option.bind_eq_some_iff.mp hi
  split at e
  · cases e; exact ⟨i, r, hr, rfl⟩
  · cases e
theorem goneF_asc {R : List Rw} {top : Int} (A : Good R top) {b : Nat → Bool} {n : Nat} : (((List.range n).filterMap (goneF R b)).take 3).Pairwise (· < ·) := by
  refine List.Pairwise.sublist (List.take_sublist _ _) (List.pairwise_filterMap.mpr (List.pairwise_lt_range.imp fun {i j} hij u hu v hv => ?_))
  obtain ⟨r, hr, e⟩ := Option.bind_eq_some_iff.mp hu
  obtain ⟨s, hs, e'⟩ := Option.bind_eq_some_iff.mp hv
  split at e <;> cases e
  split at e' <;> cases e'
  exact A.asc i j r s hij hr hs
theorem goneF_map {R : List Rw} {b : Nat → Bool} {n : Nat} : (List.range n).filterMap (fun i => (goneF R b i).map fun u => Value.int u 0) = ((List.range n).filterMap (goneF R b)).map fun u => Value.int u 0 := by
  rw [List.map_filterMap]
end Mine
end
section
set_option maxRecDepth 100000
set_option Elab.async false
set_option linter.unusedVariables false
set_option maxHeartbeats 4000000
namespace Mine
open PySem PySem.W PySem.Calls PyProof.Rows
/-! What the law keeps -/
structure LawIs (H : AH) (LR CR : Addr) (ls : List Addr) (R : List Rw) (top c1 : Int) (c2 : Bool) : Prop where
  list : H LR = some (.list (refs ls))
  cnt : H CR = some (.list [.int top 0, .int c1 0, .bool c2])
  rows : RowsA H ls R
  inj : Inj ls
  good : Good R top
  nn : 0 ≤ top
/-- an answer, and what it tells -/
inductive Ans (H : AH) (A : Addr) (R : List Rw) (top c1 : Int) (c2 : Bool) : List Rw → Int → Bool → Prop
  | ex (N : List Rw) : (∀ r ∈ N, Blank r) → H A = some (.tup [.str "exists" 0, .int (R.length + N.length : Nat) 0]) → Ans H A R top c1 c2 (R ++ N) c1 c2
  | expunge (i : Nat) : i < R.length → H A = some (.tup [.str "expunge" 0, .int (i + 1) 0]) → Ans H A R top c1 c2 (R.eraseIdx i) c1 c2
  | vanished (us : List Int) (S : Addr) (vs : List Value) (Rs : Nat → List Rw) : H S = some (.tup vs) → IntPairs H vs (us.map fun u => (u, u)) → Asc (us.map fun u => (u, u)) → us ≠ [] → us.length ≤ 3 → us.length ≤ R.length → Rs 0 = R →
      (∀ (i : Nat) u, us[i]? = some u → Good (Rs i) top ∧ ∃ a p, Gone (Rs i) u a p (Rs (i + 1))) → H A = some (.tup [.str "vanished" 0, .ref S, .bool false]) → Ans H A R top c1 c2 (Rs us.length) c1 c2
  | kept (S : Addr) : H A = some (.tup [.str "vanished" 0, .ref S, .bool true]) → Ans H A R top c1 c2 R c1 c2
  | fetch (i : Nat) (T : Addr) (r r' : Rw) (vs : List Value) (es : List (Str × Value)) (W : Wd) : R[i]? = some r → KnowTo W r r' → H T = some (.tup vs) → PairsAt H vs es → (es.map (·.1)).Nodup → es.length ≤ 3 → WordsAre H es W → (∀ u, W.uid = some u → u = r.hid) →
      H A = some (.tup [.str "fetch" 0, .int (i + 1) 0, .ref T]) → Ans H A R top c1 c2 (R.set i r') c1 c2
  | okn (t w : Str) : H A = some (.tup [.str "ok" 0, .str t 0, .none, .str w 0]) → Ans H A R top c1 c2 R c1 c2
  | top (t w : Str) (n : Int) (l a : Addr) : H l = some (.list [.ref a, .int n 0]) → H a = some (atomO "HIGHESTMODSEQ") → H A = some (.tup [.str "ok" 0, .str t 0, .ref l, .str w 0]) → Ans H A R top c1 c2 R (if (t != ("*" : Str)) then max c1 n else c1) c2
  | ro (t w : Str) (x : Bool) (l a : Addr) : H l = some (.list [.ref a]) → H a = some (atomO (if x then "READ-ONLY" else "READ-WRITE")) → H A = some (.tup [.str "ok" 0, .str t 0, .ref l, .str w 0]) → Ans H A R top c1 c2 R c1 x
  | search (S : Addr) : H A = some (.tup [.str "search" 0, .ref S, .int 0 0]) → Ans H A R top c1 c2 R c1 c2
  | no : H A = some (.tup [.str "no" 0, .str "a1" 0, .none, .str "no" 0]) → Ans H A R top c1 c2 R c1 c2
theorem LawIs.ne {H : AH} {LR CR : Addr} {ls : List Addr} {R : List Rw} {top c1 : Int} {c2 : Bool} (X : LawIs H LR CR ls R top c1 c2) : LR ≠ CR := fun z => by
  have := X.cnt
  rw [← z, X.list] at this
  cases ls <;> simp [refs] at this
theorem LawIs.notL {H : AH} {LR CR : Addr} {ls : List Addr} {R : List Rw} {top c1 : Int} {c2 : Bool} (X : LawIs H LR CR ls R top c1 c2) : LR ∉ ls := X.rows.notIn X.list
theorem LawIs.notC {H : AH} {LR CR : Addr} {ls : List Addr} {R : List Rw} {top c1 : Int} {c2 : Bool} (X : LawIs H LR CR ls R top c1 c2) : CR ∉ ls := fun z => by
  obtain ⟨i, hi⟩ := List.getElem?_of_mem z
  obtain ⟨r, hr, fv, _, ho⟩ := X.rows.both hi
  rw [X.cnt] at ho
  simp [rowO] at ho
theorem LawIs.same {H H' : AH} {LR CR : Addr} {ls : List Addr} {R : List Rw} {top c1 : Int} {c2 : Bool} (X : LawIs H LR CR ls R top c1 c2) (k : Same H H') : LawIs H' LR CR ls R top c1 c2 := ⟨k.at X.list, k.at X.cnt, X.rows.same k, X.inj, X.good, X.nn⟩
theorem LawIs.len {H : AH} {LR CR : Addr} {ls : List Addr} {R : List Rw} {top c1 : Int} {c2 : Bool} (X : LawIs H LR CR ls R top c1 c2) : (refs ls).length = R.length := by rw [refs_len, X.rows.len]
abbrev LawS (LR CR : Addr) (ls : List Addr) (x : Addr) : Prop := x = LR ∨ x = CR ∨ x ∈ ls
def AnsK (H : AH) (LR CR : Addr) (ls : List Addr) (R : List Rw) (top c1 : Int) (c2 : Bool) (Ψ : Value → AH → Prop) : Prop := ∀ H' A ls' R' top' c1' c2', Keep (LawS LR CR ls) H H' → LawIs H' LR CR ls' R' top' c1' c2' → R'.length ≤ R.length + 3 → top' ≤ top + 6 → Ans H' A R top' c1 c2 R' c1' c2' → Ψ (.ref A) H'
/-- where a branch of the law's answer begins -/
structure AnsAt (σ : St) (L LR CR : Addr) (ls : List Addr) (R : List Rw) (top c1 : Int) (c2 : Bool) (q : Int) : Prop where
  mc : σ.m "counts" = some (.ref CR)
  hr : σ.H (L + 1) = some (.cell (.ref LR))
  hq : σ.H (L + 1 + 1) = some (.cell (.int q 0))
  law : LawIs σ.H LR CR ls R top c1 c2
  zR : R.length ≤ 900
  zt : top ≤ 40000
noncomputable def bd (j : Nat) : List Stmt := match (bodyF 33)[j]? with | some (.If _ b _ _) => b | _ => []
abbrev ansCells (L : Addr) : List (Str × Addr) := [("rest", L + 1 + 1), ("rows", L + 1)]
section
variable {P : Params} {C : Cx} {env : Env} {σ : St} {LR CR : Addr} {ls : List Addr} {R : List Rw} {top c1 q : Int} {c2 : Bool} {Ψ : Flow → St → Prop}
/-- the place that a cell names -/
theorem place_of {n : Nat} (hn : 0 < n) (q : Int) : ∃ i : Nat, q.fmod n = i ∧ i < n := by
  have h0 : 0 ≤ q.fmod n := Int.fmod_nonneg_of_pos _ (by omega)
  have h1 : q.fmod n < n := Int.fmod_lt_of_pos _ (by omega)
  exact ⟨(q.fmod n).toNat, by omega, by omega⟩
theorem small_log {n : Nat} (hn : n ≤ 1000) : ((n : Nat) : Int).natAbs.log2 < 9000 := by
  rw [Int.natAbs_natCast]
  by_cases h : n = 0
  · subst h; decide
  · have : n.log2 < 10 := (Nat.log2_lt h).mpr (by omega)
    omega
theorem ans_expunge (G : Gr P C.b) (ok : OkA C.A 1) (E : EnvIs env C.L n_law_answer (ansCells C.L)) (X : AnsAt σ C.L LR CR ls R top c1 c2 q) (hne : 0 < R.length)
    (k : AnsK σ.H LR CR ls R top c1 c2 fun v H' => ∀ m', Ψ (.ret v) ⟨m', H'⟩) : Exs C env (bd 3) σ Ψ := by
  have hlen := X.law.len
  have hz := X.zR
  obtain ⟨i, hi, hin⟩ := place_of hne q
  refine Exs.cons (Ex.assign rfl E.kind (E.kinds _ _ (by rfl)) E.loc (Pe.ev (Pe.to (Pe.binop (Pe.ce E (by rfl) (by rfl) X.hq (by rfl)) (call_len G E (by rfl) (Pe.ce E (by rfl) (by rfl) X.hr (by rfl)) X.law.list (by omega)) (OpTo.mod (by omega))) (by rw [hlen, hi])) ?_))
  have hla : i < ls.length := by have := X.law.rows.len; omega
  refine Exs.cons (Ex.expr ?_ E.quiet rfl)
  refine Ev.lmeth G PySem.F.slot_list_pop PySem.F.type_list_pop (Pe.ev (Pe.ce E (by rfl) (by rfl) X.hr (by rfl)) ⟨LR, _, rfl, X.law.list, As.cons (Pe.ev (Pe.l E (by rfl) pm_self (by rfl)) (As.nil ?_))⟩)
  refine CallTo.pop (v := .ref ls[i]) X.law.list (by omega) (by omega) (by rw [Int.toNat_natCast]; exact refs_at (by simp [hla])) (len_k (by omega)) ?_
  rw [Int.toNat_natCast, refs_erase]
  refine Exs.cons (Ex.ret (Ev.tuple (As.cons (Pe.ev Pe.str (As.cons (Pe.ev (Pe.binop (Pe.l E (by rfl) pm_self (by rfl)) Pe.int OpTo.add) (As.nil ⟨len_small (by rfl), fun A hA => ?_⟩)))))))
  dsimp only at hA ⊢
  have hAL : A ≠ LR := fun z => by rw [z, upd_self] at hA; cases hA
  have k0 : Same (upd σ.H LR (.list (refs (ls.eraseIdx i)))) (upd (upd σ.H LR (.list (refs (ls.eraseIdx i)))) A (.tup [.str "expunge" 0, .int (i + 1) 0])) := same_new hA
  have k1 : Keep (LawS LR CR ls) σ.H (upd σ.H LR (.list (refs (ls.eraseIdx i)))) := Keep.upd (.inl rfl)
  have hCL : CR ≠ LR := fun z => X.law.ne z.symm
  refine k _ A (ls.eraseIdx i) (R.eraseIdx i) top c1 c2 (k1.trans (Same.weak k0)) ?_ (by rw [List.length_eraseIdx]; split <;> omega) (by omega) (.expunge i hin (upd_self _ _ _)) _
  have X1 : RowsA (upd σ.H LR (.list (refs (ls.eraseIdx i)))) ls R := X.law.rows.keep (S := fun x => x = LR) (Keep.upd rfl) (fun x vs e z => by rw [z, X.law.list] at e; cases e) fun h hh z => X.law.notL (z ▸ hh)
  exact ⟨k0.at (upd_self _ _ _), k0.at (by rw [upd_ne hCL]; exact X.law.cnt), (X1.erase hin).same k0, X.law.inj.erase i, X.law.good.erase i, X.law.nn⟩
end
end Mine
end
section
set_option maxRecDepth 100000
set_option Elab.async false
set_option linter.unusedVariables false
set_option maxHeartbeats 4000000
namespace Mine
open PySem PySem.W PySem.Calls PyProof.Rows
theorem PairsAt.notRow {H : AH} {vs : List Value} {es : List (Str × Value)} {r : Rw} {fv : Value} (X : PairsAt H vs es) : AO.list vs ≠ rowO r fv := fun z => by
  cases X with
  | nil => simp [rowO] at z
  | cons T k v t h _ => simp [rowO] at z
theorem KnowTo.good {R : List Rw} {top : Int} (A : Good R top) {i : Nat} {r r' : Rw} {W : Wd} (hr : R[i]? = some r) (K : KnowTo W r r') (hu : ∀ u, W.uid = some u → u = r.hid) : Good (R.set i r') top := by
  refine A.set hr K.hid ?_
  rw [K.known]
  cases h : W.uid with
  | none => exact A.kn i r hr
  | some u => exact .inr (hu u h)
section
variable {P : Params} {C : Cx} {env : Env} {σ : St} {LR CR : Addr} {ls : List Addr} {R : List Rw} {top c1 q : Int} {c2 : Bool} {Ψ : Flow → St → Prop}
theorem ans_fetch (G : Gr P C.b) (ok : OkA C.A 5) (E : EnvIs env C.L n_law_answer (ansCells C.L)) (X : AnsAt σ C.L LR CR ls R top c1 c2 q) (hne : 0 < R.length)
    (k : AnsK σ.H LR CR ls R top c1 c2 fun v H' => ∀ m', Ψ (.ret v) ⟨m', H'⟩) : Exs C env (bd 2) σ Ψ := by
  have hlen := X.law.len
  have hz := X.zR
  obtain ⟨i, hi, hin⟩ := place_of hne q
  have hr : R[i]? = some R[i] := by simp [hin]
  generalize R[i] = r at hr
  obtain ⟨l, hl, hrow⟩ := X.law.rows.both' hr
  have hlm : l ∈ ls := List.mem_of_getElem? hl
  refine Exs.cons (Ex.assign rfl E.kind (E.kinds _ _ (by rfl)) E.loc (Pe.ev (Pe.to (Pe.binop (Pe.ce E (by rfl) (by rfl) X.hq (by rfl)) (call_len G E (by rfl) (Pe.ce E (by rfl) (by rfl) X.hr (by rfl)) X.law.list (by omega)) (OpTo.mod (by omega))) (by rw [hlen, hi])) ?_))
  refine Exs.cons (Ex.assign rfl E.kind (E.kinds _ _ (by rfl)) E.loc (Ev.call G (Pe.ev (Pe.g E G (by rfl) (g_law_pairs P) (by rfl)) ⟨k_law_pairs P, ?_⟩)))
  refine As.cons (Pe.ev (law_row (Pe.ce E (by rfl) (by rfl) X.hr (by rfl)) (Pe.l E (by rfl) pm_self (by rfl)) X.law.list rfl hl (by omega)) ?_)
  refine As.cons (Pe.ev (Pe.binop (Pe.ce E (by rfl) (by rfl) X.hq (by rfl)) (call_len G E (by rfl) (Pe.ce E (by rfl) (by rfl) X.hr (by rfl)) X.law.list (by omega)) (OpTo.div (by omega) (small_log (by omega)))) ?_)
  refine As.nil (CodeTo.call (law_pairs_spec G ok hrow fun H1 p vs es W k1 hp P1 nd hz1 W1 hu => ?_))
  have L1 := X.law.same k1
  have row1 := hrow.same k1
  refine Exs.cons (Ex.expr ?_ E.quiet rfl)
  refine Ev.call G (Pe.ev (Pe.g E G (by rfl) (g_law_know P) (by rfl)) ⟨k_law_know P, ?_⟩)
  refine As.cons (Pe.ev (law_row (Pe.ce E (by rfl) (by rfl) (k1.at X.hr) (by rfl)) (Pe.l E (by rfl) (pm_ne (by rfl) pm_self) (by rfl)) L1.list rfl hl (by omega)) (As.cons (Pe.ev (Pe.l E (by rfl) pm_self (by rfl)) ?_)))
  refine As.nil (CodeTo.call (law_know_spec G (ok.le (by omega)) row1 hp P1 nd hz1 W1 hu fun H2 r' k2 lv2 KT row2 => ?_))
  have hpl : p ≠ l := fun z => by
    obtain ⟨fv, _, ho⟩ := row1
    rw [← z, hp] at ho
    exact P1.notRow (Option.some.inj ho)
  have hp2 := k2.get hp hpl
  have hTup : ∀ x vs, H1 x = some (.tup vs) → ¬ x = l := fun x vs e z => by
    obtain ⟨fv, _, ho⟩ := row1
    rw [← z, e] at ho; cases ho
  have P2 : PairsAt H2 vs es := P1.mono fun T ws e => k2.get e (hTup T ws e)
  have NW : NoWord H1 (fun x => x = l) := by
    obtain ⟨fv, _, ho⟩ := row1
    intro x z o e
    rw [z, ho] at e
    cases e
    refine ⟨by simp [atomO], fun as e => ?_, by simp⟩
    cases as <;> simp [refs] at e
  have W2 := W1.keep k2 NW
  have hLl : LR ≠ l := fun z => X.law.notL (z ▸ hlm)
  have hCl : CR ≠ l := fun z => X.law.notC (z ▸ hlm)
  have L2 : LawIs H2 LR CR ls (R.set i r') top c1 c2 := ⟨k2.get L1.list hLl, k2.get L1.cnt hCl, L1.rows.set L1.inj hl k2 (fun vs e => hTup l vs e rfl) row2, L1.inj, KT.good L1.good hr hu, L1.nn⟩
  refine Exs.cons (Ex.ret (Ev.tuple (As.cons (Pe.ev Pe.str (As.cons (Pe.ev (Pe.binop (Pe.l E (by rfl) (pm_ne (by rfl) pm_self) (by rfl)) Pe.int OpTo.add) (As.cons ?_)))))))
  refine Ev.call G (Pe.ev (nm_tuple E G (by rfl)) ⟨.inr (.inl ⟨_, rfl⟩), As.cons (Pe.ev (Pe.l E (by rfl) pm_self (by rfl)) (As.nil ?_))⟩)
  refine CallTo.tuple hp2 (len_k (by rw [P2.len]; omega)) fun T hT => As.nil ⟨len_small (by rfl), fun A hA => ?_⟩
  dsimp only at hT hA ⊢
  have k3 := same_new (o := .tup vs) hT
  have k4 := same_new (o := .tup [.str "fetch" 0, .int (i + 1) 0, .ref T]) hA
  refine k _ A ls (R.set i r') top c1 c2 (((Same.weak k1).trans (k2.weak fun x z => .inr (.inr (z ▸ hlm)))).trans (Same.weak (k3.trans k4))) ((L2.same k3).same k4) (by rw [List.length_set]; omega) (by omega) (.fetch i T r r' vs es W hr KT (k4.at (upd_self _ _ _)) ((P2.mono fun T ws e => k3.at e).mono fun T ws e => k4.at e) nd hz1 ((W2.same k3).same k4) hu (upd_self _ _ _)) _
end
end Mine
end
section
set_option maxRecDepth 100000
set_option Elab.async false
set_option linter.unusedVariables false
set_option maxHeartbeats 4000000
namespace Mine
open PySem PySem.W PySem.Calls PyProof.Rows
theorem LawIs.setC {H : AH} {LR CR : Addr} {ls : List Addr} {R : List Rw} {top c1 c1' : Int} {c2 c2' : Bool} (X : LawIs H LR CR ls R top c1 c2) : LawIs (upd H CR (.list [.int top 0, .int c1' 0, .bool c2'])) LR CR ls R top c1' c2' :=
  ⟨by rw [upd_ne X.ne]; exact X.list, upd_self _ _ _, X.rows.keep (S := fun x => x = CR) (Keep.upd rfl) (fun x vs e z => by rw [z, X.cnt] at e; cases e) fun h hh z => X.notC (z ▸ hh), X.inj, X.good, X.nn⟩
section
variable {P : Params} {C : Cx} {env : Env} {σ : St} {LR CR : Addr} {ls : List Addr} {R : List Rw} {top c1 q : Int} {c2 : Bool} {Ψ : Flow → St → Prop}
theorem ans_top (G : Gr P C.b) (ok : OkA C.A 2) (E : EnvIs env C.L n_law_answer (ansCells C.L)) (X : AnsAt σ C.L LR CR ls R top c1 c2 q)
    (k : AnsK σ.H LR CR ls R top c1 c2 fun v H' => ∀ m', Ψ (.ret v) ⟨m', H'⟩) : Exs C env (bd 5) σ Ψ := by
  generalize hn : ((q.fdiv 2).fmod 500) = n
  obtain ⟨tag, t, ht, htag⟩ : ∃ (tag : Bool) (t : Str), t = (if tag then ("a1" : Str) else ("*" : Str)) ∧ tag = (q.fmod 2 == 1) := ⟨_, _, rfl, rfl⟩
  refine Exs.cons (Ex.assign rfl E.kind (E.kinds _ _ (by rfl)) E.loc (Pe.ev (Pe.to (Pe.ifexp (x := tag) (Pt.to (Pt.cmp (Pe.binop (Pe.ce E (by rfl) (by rfl) X.hq (by rfl)) Pe.int (OpTo.mod (by decide))) Pe.int CmpTo.eq (by rfl)) htag.symm) (fun _ => Pe.str) (fun _ => Pe.str)) (y := .str t 0) (by rw [ht]; cases tag <;> rfl)) ?_))
  refine Exs.cons (Ex.mono (Φ := fun f σ' => f = .next ∧ σ'.m "tag" = some (.str t 0) ∧ Keep (LawS LR CR ls) σ.H σ'.H ∧ σ'.H (C.L + 1 + 1) = some (.cell (.int q 0)) ∧ LawIs σ'.H LR CR ls R top (if (t != ("*" : Str)) then max c1 n else c1) c2) ?_ ?_)
  · refine Ex.ifP (c := t != ("*" : Str)) (Pt.cmp (Pe.l E (by rfl) pm_self (by rfl)) Pe.str CmpTo.nes (by rfl)) (fun h => ?_) fun h => Exs.nil ⟨rfl, pm_self, Keep.refl, X.hq, by rw [h]; exact X.law⟩
    refine Exs.cons (Ex.setitem rfl (Ev.call G (Pe.ev (nm_max E G (by rfl)) ⟨.inl ⟨_, rfl⟩, As.cons (Pe.ev (Pe.item (Pe.l E (by rfl) (pm_ne (by rfl) X.mc) (by rfl)) Pe.int X.law.cnt (by decide) (by decide) (by rfl)) (As.cons (Pe.ev (Pe.binop (Pe.binop (Pe.ce E (by rfl) (by rfl) X.hq (by rfl)) Pe.int (OpTo.div (by decide) (by decide))) Pe.int (OpTo.mod (by decide))) (As.nil (CallTo.max2 ok.hd ?_)))))⟩)))
    refine Pe.ev (Pe.l E (by rfl) (pm_ne (by rfl) X.mc) (by rfl)) (Pe.ev Pe.int ⟨CR, _, 1, 0, rfl, rfl, X.law.cnt, by decide, by simp, by decide, ?_⟩)
    have hqC : C.L + 1 + 1 ≠ CR := fun z => by have := X.hq; rw [z, X.law.cnt] at this; cases this
    rw [hn]
    exact Exs.nil ⟨rfl, pm_self, Keep.upd (.inr (.inl rfl)), by dsimp only; rw [upd_ne hqC]; exact X.hq, by rw [h]; exact X.law.setC⟩
  rintro f ⟨m2, H2⟩ ⟨rfl, mt, k2, hq2, L2⟩
  dsimp only at mt k2 hq2 L2
  refine Exs.cons (Ex.ret (Ev.tuple (As.cons (Pe.ev Pe.str (As.cons (Pe.ev (Pe.l E (by rfl) mt (by rfl)) (As.cons (Ev.list (As.cons ?_)))))))))
  refine Ev.call G (Pe.ev (Pe.g E G (by rfl) (g_Atom P) (by rfl)) ⟨k_Atom P, As.cons (Pe.ev Pe.str (As.nil (CodeTo.call (atom_new G ok fun a ha => ?_))))⟩)
  have k3 := same_new (o := atomO "HIGHESTMODSEQ") ha
  refine As.cons (Pe.ev (Pe.binop (Pe.binop (Pe.ce E (by rfl) (by rfl) (k3.at hq2) (by rfl)) Pe.int (OpTo.div (by decide) (by decide))) Pe.int (OpTo.mod (by decide))) (As.nil ⟨len_small (by rfl), fun l hl => ?_⟩))
  refine As.cons (Pe.ev Pe.str (As.nil ⟨len_small (by rfl), fun A hA => ?_⟩))
  rw [hn] at hA ⊢
  have k4 := same_new (o := .list [.ref a, .int n 0]) hl
  have k5 := same_new (o := .tup [.str "ok" 0, .str t 0, .ref l, .str "done" 0]) hA
  refine k _ A ls R top _ c2 (k2.trans (Same.weak ((k3.trans k4).trans k5))) (((L2.same k3).same k4).same k5) (by omega) (by omega) (.top t "done" n l a (k5.at (upd_self _ _ _)) (k5.at (k4.at (upd_self _ _ _))) (upd_self _ _ _)) _
theorem ans_ro (G : Gr P C.b) (ok : OkA C.A 2) (E : EnvIs env C.L n_law_answer (ansCells C.L)) (X : AnsAt σ C.L LR CR ls R top c1 c2 q)
    (k : AnsK σ.H LR CR ls R top c1 c2 fun v H' => ∀ m', Ψ (.ret v) ⟨m', H'⟩) : Exs C env (bd 6) σ Ψ := by
  generalize hx : (q.fmod 2 == 1) = x
  refine Exs.cons (Ex.setitem rfl (Pe.ev (Pe.cmp (Pe.binop (Pe.ce E (by rfl) (by rfl) X.hq (by rfl)) Pe.int (OpTo.mod (by decide))) Pe.int CmpTo.eq (by rfl)) (Pe.ev (Pe.l E (by rfl) X.mc (by rfl)) (Pe.ev Pe.int ⟨CR, _, 2, 0, rfl, rfl, X.law.cnt, by decide, by simp, by decide, ?_⟩))))
  have hqC : C.L + 1 + 1 ≠ CR := fun z => by have := X.hq; rw [z, X.law.cnt] at this; cases this
  rw [hx]
  have L2 : LawIs (upd σ.H CR (.list [.int top 0, .int c1 0, .bool x])) LR CR ls R top c1 x := X.law.setC
  have k2 : Keep (LawS LR CR ls) σ.H (upd σ.H CR (.list [.int top 0, .int c1 0, .bool x])) := Keep.upd (.inr (.inl rfl))
  have hq2 : upd σ.H CR (.list [.int top 0, .int c1 0, .bool x]) (C.L + 1 + 1) = some (.cell (.int q 0)) := by rw [upd_ne hqC]; exact X.hq
  show Exs C env _ ⟨σ.m, upd σ.H CR (.list [.int top 0, .int c1 0, .bool x])⟩ Ψ
  generalize upd σ.H CR (.list [.int top 0, .int c1 0, .bool x]) = H2 at L2 k2 hq2
  refine Exs.cons (Ex.ret (Ev.tuple (As.cons (Pe.ev Pe.str (As.cons (Pe.ev Pe.str (As.cons (Ev.list (As.cons ?_)))))))))
  refine Ev.call G (Pe.ev (Pe.g E G (by rfl) (g_Atom P) (by rfl)) ⟨k_Atom P, As.cons (Pe.ev (Pe.to (Pe.ifexp (x := x) (Pt.to (Pt.cmp (Pe.binop (Pe.ce E (by rfl) (by rfl) hq2 (by rfl)) Pe.int (OpTo.mod (by decide))) Pe.int CmpTo.eq (by rfl)) hx) (fun _ => Pe.str) (fun _ => Pe.str)) (y := .str (if x then "READ-ONLY" else "READ-WRITE") 0) (by cases x <;> rfl)) (As.nil (CodeTo.call (atom_new G ok fun a ha => ?_))))⟩)
  have k3 := same_new (o := atomO (if x then "READ-ONLY" else "READ-WRITE")) ha
  refine As.nil ⟨len_small (by rfl), fun l hl => ?_⟩
  refine As.cons (Pe.ev Pe.str (As.nil ⟨len_small (by rfl), fun A hA => ?_⟩))
  have k4 := same_new (o := .list [.ref a]) hl
  have k5 := same_new (o := .tup [.str "ok" 0, .str "*" 0, .ref l, .str "so it is" 0]) hA
  refine k _ A ls R top c1 x (k2.trans (Same.weak ((k3.trans k4).trans k5))) (((L2.same k3).same k4).same k5) (by omega) (by omega) (.ro "*" "so it is" x l a (k5.at (upd_self _ _ _)) (k5.at (k4.at (upd_self _ _ _))) (upd_self _ _ _)) _
noncomputable def lastS : List Stmt := (bodyF 33).drop 7
theorem ans_rest (G : Gr P C.b) (E : EnvIs env C.L n_law_answer (ansCells C.L)) (X : AnsAt σ C.L LR CR ls R top c1 c2 q)
    (k : AnsK σ.H LR CR ls R top c1 c2 fun v H' => ∀ m', Ψ (.ret v) ⟨m', H'⟩) : Exs C env lastS σ Ψ := by
  obtain ⟨j, hj, hj4⟩ := place_of (n := 4) (by decide) q
  refine Exs.cons ?_
  refine Ex.ret ?_
  refine Ev.sub ?_
  refine Ev.list ?_
  refine As.cons ?_
  refine Ev.tuple ?_
  refine As.cons ?_
  refine Pe.ev Pe.str ?_
  refine As.cons ?_
  refine Ev.tuple ?_
  refine As.cons ?_
  refine Pe.ev Pe.int ?_
  refine As.cons ?_
  refine Pe.ev Pe.int ?_
  refine As.nil ⟨len_small (by rfl), fun t1 h1 => ?_⟩
  refine As.cons ?_
  refine Pe.ev Pe.int ?_
  refine As.nil ⟨len_small (by rfl), fun t2 h2 => ?_⟩
  refine As.cons ?_
  refine Ev.tuple ?_
  refine As.cons ?_
  refine Pe.ev Pe.str ?_
  refine As.cons ?_
  refine Pe.ev Pe.str ?_
  refine As.cons ?_
  refine Pe.ev Pe.none_ ?_
  refine As.cons ?_
  refine Pe.ev Pe.str ?_
  refine As.nil ⟨len_small (by rfl), fun t3 h3 => ?_⟩
  refine As.cons ?_
  refine Ev.tuple ?_
  refine As.cons ?_
  refine Pe.ev Pe.str ?_
  refine As.cons ?_
  refine Pe.ev Pe.str ?_
  refine As.cons ?_
  refine Pe.ev Pe.none_ ?_
  refine As.cons ?_
  refine Pe.ev Pe.str ?_
  refine As.nil ⟨len_small (by rfl), fun t4 h4 => ?_⟩
  refine As.cons ?_
  refine Ev.tuple ?_
  refine As.cons ?_
  refine Pe.ev Pe.str ?_
  refine As.cons ?_
  refine Ev.tuple ?_
  refine As.cons ?_
  refine Ev.tuple ?_
  refine As.cons ?_
  refine Pe.ev Pe.int ?_
  refine As.cons ?_
  refine Pe.ev Pe.int ?_
  refine As.nil ⟨len_small (by rfl), fun t5 h5 => ?_⟩
  refine As.nil ⟨len_small (by rfl), fun t6 h6 => ?_⟩
  refine As.cons ?_
  refine Pe.ev Pe.bool ?_
  refine As.nil ⟨len_small (by rfl), fun t7 h7 => ?_⟩
  refine As.nil ⟨len_small (by rfl), fun l hl => ?_⟩
  dsimp only at h1 h2 h3 h4 h5 h6 h7 hl ⊢
  have k1 := same_new (o := .tup [.int 1 0, .int 2 0]) h1
  have k2 := same_new (o := .tup [.str "search" 0, .ref t1, .int 0 0]) h2
  have k3 := same_new (o := .tup [.str "no" 0, .str "a1" 0, .none, .str "no" 0]) h3
  have k4 := same_new (o := .tup [.str "ok" 0, .str "*" 0, .none, .str "yes" 0]) h4
  have k5 := same_new (o := .tup [.int 1 0, .int 9 0]) h5
  have k6 := same_new (o := .tup [.ref t5]) h6
  have k7 := same_new (o := .tup [.str "vanished" 0, .ref t6, .bool true]) h7
  have k8 := same_new (o := .list [.ref t2, .ref t3, .ref t4, .ref t7]) hl
  have k58 := ((k5.trans k6).trans k7).trans k8
  have kall := (((k1.trans k2).trans k3).trans k4).trans k58
  refine Pe.ev (Pe.to (Pe.binop (Pe.ce E (by rfl) (by rfl) (kall.at X.hq) (by rfl)) Pe.int (OpTo.mod (by decide))) (y := .int j 0) (by rw [← hj]; rfl)) ?_
  have L := X.law.same kall
  have done : ∀ A, Ans _ A R top c1 c2 R c1 c2 → Ψ (.ret (.ref A)) ⟨σ.m, _⟩ := fun A a => k _ A ls R top c1 c2 (Same.weak kall) L (by omega) (by omega) a _
  have hc : j = 0 ∨ j = 1 ∨ j = 2 ∨ j = 3 := by omega
  rcases hc with rfl | rfl | rfl | rfl
  · exact ItemTo.list (v := .ref t2) (upd_self _ _ _) (by decide) (by decide) (by rfl) (done t2 (.search t1 (((k3.trans k4).trans k58).at (upd_self _ _ _))))
  · exact ItemTo.list (v := .ref t3) (upd_self _ _ _) (by decide) (by decide) (by rfl) (done t3 (.no ((k4.trans k58).at (upd_self _ _ _))))
  · exact ItemTo.list (v := .ref t4) (upd_self _ _ _) (by decide) (by decide) (by rfl) (done t4 (.okn "*" "yes" (k58.at (upd_self _ _ _))))
  · exact ItemTo.list (v := .ref t7) (upd_self _ _ _) (by decide) (by decide) (by rfl) (done t7 (.kept t6 (k8.at (upd_self _ _ _))))
end
end Mine
end
section
set_option maxRecDepth 100000
set_option Elab.async false
set_option linter.unusedVariables false
set_option maxHeartbeats 4000000
namespace Mine
open PySem PySem.W PySem.Calls PyProof.Rows
theorem LawIs.push {H : AH} {LR CR l : Addr} {ls : List Addr} {R : List Rw} {top c1 t : Int} {c2 : Bool} (X : LawIs H LR CR ls R top c1 c2) (h : top < t) (hl : upd H CR (.list [.int t 0, .int c1 0, .bool c2]) l = none) :
    LawIs (upd (upd (upd H CR (.list [.int t 0, .int c1 0, .bool c2])) l (rowO ⟨t, 0, none, 0⟩ .none)) LR (.list (refs ls ++ [.ref l]))) LR CR (ls ++ [l]) (R ++ [⟨t, 0, none, 0⟩]) t c1 c2 := by
  have hlC : l ≠ CR := fun z => by rw [z, upd_self] at hl; cases hl
  have hln : H l = none := by rw [upd_ne hlC] at hl; exact hl
  have hlL : l ≠ LR := fun z => by rw [z, X.list] at hln; cases hln
  have hll : l ∉ ls := fun z => by
    obtain ⟨vs, ho⟩ := X.rows.ne z
    rw [hln] at ho; cases ho
  have k1 : Keep (fun x => x = LR ∨ x = CR) H (upd (upd (upd H CR (.list [.int t 0, .int c1 0, .bool c2])) l (rowO ⟨t, 0, none, 0⟩ .none)) LR (.list (refs ls ++ [.ref l]))) := ((Keep.upd (.inr rfl)).trans (Keep.new hl)).trans (Keep.upd (.inl rfl))
  have hT : ∀ x vs, H x = some (.tup vs) → ¬ (x = LR ∨ x = CR) := by
    rintro x vs e (z | z)
    · rw [z, X.list] at e; cases e
    · rw [z, X.cnt] at e; cases e
  refine ⟨by rw [upd_self]; simp [refs], by rw [upd_ne (Ne.symm X.ne), upd_ne (Ne.symm hlC), upd_self], ?_, X.inj.app (Inj.one l) (fun x hx z => by simp at z; subst z; exact hll hx), X.good.snoc X.nn h (Int.le_refl _) rfl, by have := X.nn; omega⟩
  refine (X.rows.keep k1 hT ?_).app ⟨rfl, fun i a r e1 e2 => ?_⟩
  · rintro a ha (z | z)
    · exact X.notL (z ▸ ha)
    · exact X.notC (z ▸ ha)
  · cases i with
    | zero =>
      simp at e1 e2
      subst e1
      subst e2
      exact ⟨.none, rfl, by rw [upd_ne hlL, upd_self]⟩
    | succ i => simp at e1
section
variable {P : Params} {C : Cx} {env : Env} {σ : St} {LR CR : Addr} {ls : List Addr} {R : List Rw} {top c1 q : Int} {c2 : Bool} {Ψ : Flow → St → Prop}
theorem ans_exists (G : Gr P C.b) (ok : OkA C.A 1) (E : EnvIs env C.L n_law_answer (ansCells C.L)) (X : AnsAt σ C.L LR CR ls R top c1 c2 q)
    (k : AnsK σ.H LR CR ls R top c1 c2 fun v H' => ∀ m', Ψ (.ret v) ⟨m', H'⟩) : Exs C env (bd 1) σ Ψ := by
  have hz := X.zR
  obtain ⟨j, hj, hj3⟩ := place_of (n := 3) (by decide) q
  obtain ⟨y, hy, hy2⟩ := place_of (n := 2) (by decide) (q.fdiv 3)
  refine Exs.cons ?_
  refine Ex.forR ok.hd E (by rfl) ?_
  refine Ev.call G (Pe.ev (nm_range E G (by rfl)) ⟨.inr (.inl ⟨_, rfl⟩), ?_⟩)
  refine As.cons ?_
  refine Pe.ev (Pe.to (Pe.binop Pe.int (Pe.binop (Pe.ce E (by rfl) (by rfl) X.hq (by rfl)) Pe.int (OpTo.mod (by decide))) OpTo.add) (y := .int (1 + j : Nat) 0) (by rw [show q.fmod 3 = j from hj, Int.natCast_add]; rfl)) ?_
  refine As.nil ?_
  refine CallTo.range1 fun r hr => ?_
  have k0 := same_new (o := .range 0 (0 + (1 + j : Nat))) hr
  have C0 := X.law.same k0
  refine ⟨r, 0, 1 + j, rfl, upd_self _ _ _, by omega, by omega, by omega, fun i σ' => σ'.m "counts" = some (.ref CR) ∧ σ'.H (C.L + 1) = some (.cell (.ref LR)) ∧ σ'.H (C.L + 1 + 1) = some (.cell (.int q 0)) ∧ Keep (LawS LR CR ls) σ.H σ'.H ∧ ∃ (ls' : List Addr) (N : List Rw), N.length = i ∧ (∀ r ∈ N, Blank r) ∧ LawIs σ'.H LR CR (ls ++ ls') (R ++ N) (top + i * (1 + y)) c1 c2, ⟨X.mc, k0.at X.hr, k0.at X.hq, Same.weak k0, [], [], rfl, by simp, by simpa using C0⟩, ?_, ?_⟩
  · rintro F i ⟨m', H'⟩ hi ⟨m1, m2, m3, k1, ls', N, e1, e2, L1⟩
    dsimp only at m1 m2 m3 k1 L1
    have hlen := L1.len
    rw [List.length_append, e1] at hlen
    refine Exs.cons ?_
    refine Ex.setitem rfl ?_
    refine Pe.ev (Pe.to (Pe.binop (Pe.binop (Pe.item (Pe.l E (by rfl) (pm_ne (by rfl) m1) (by rfl)) Pe.int L1.cnt (by decide) (by decide) (by rfl)) Pe.int OpTo.add) (Pe.binop (Pe.binop (Pe.ce E (by rfl) (by rfl) m3 (by rfl)) Pe.int (OpTo.div (by decide) (by decide))) Pe.int (OpTo.mod (by decide))) OpTo.add) (y := .int (top + (i + 1 : Nat) * (1 + y)) 0) (by
      rw [show (q.fdiv 3).fmod 2 = y from hy, Int.natCast_add, Int.add_mul]
      congr 1
      omega)) ?_
    refine Pe.ev (Pe.l E (by rfl) (pm_ne (by rfl) m1) (by rfl)) ?_
    refine Pe.ev Pe.int ⟨CR, _, 0, 0, rfl, rfl, L1.cnt, by decide, by simp, by decide, ?_⟩
    show Exs _ env _ ⟨putM m' "step" _, upd H' CR (.list [.int (top + (i + 1 : Nat) * (1 + y)) 0, .int c1 0, .bool c2])⟩ _
    have hlt : top + i * (1 + y) < top + (i + 1 : Nat) * (1 + y) := by rw [Int.natCast_add, Int.add_mul]; omega
    have hcell : ∀ {a : Addr} {v : Value} {o : AO} {x : Addr}, H' a = some (.cell v) → (∃ vs, H' x = some (.list vs)) → upd H' x o a = some (.cell v) := fun {a v o x} h1 ⟨vs, h2⟩ => by
      rw [upd_ne (fun z => by rw [z, h2] at h1; cases h1)]; exact h1
    have m2' := hcell (o := .list [.int (top + (i + 1 : Nat) * (1 + y)) 0, .int c1 0, .bool c2]) m2 ⟨_, L1.cnt⟩
    have m3' := hcell (o := .list [.int (top + (i + 1 : Nat) * (1 + y)) 0, .int c1 0, .bool c2]) m3 ⟨_, L1.cnt⟩
    have hL' : upd H' CR (.list [.int (top + (i + 1 : Nat) * (1 + y)) 0, .int c1 0, .bool c2]) LR = some (.list (refs (ls ++ ls'))) := by rw [upd_ne L1.ne]; exact L1.list
    refine Exs.cons ?_
    refine Ex.expr ?_ E.quiet rfl
    refine Ev.lmeth (C := { C with F := F }) G PySem.F.slot_list_append PySem.F.type_list_append ?_
    refine Pe.ev (Pe.ce E (by rfl) (by rfl) m2' (by rfl)) ⟨LR, _, rfl, hL', ?_⟩
    refine As.cons ?_
    refine Ev.list ?_
    refine As.cons ?_
    refine Pe.ev (Pe.item (Pe.l E (by rfl) (pm_ne (by rfl) m1) (by rfl)) Pe.int (upd_self _ _ _) (by decide) (by decide) (by rfl)) ?_
    refine As.cons (Pe.ev Pe.int ?_)
    refine As.cons (Pe.ev Pe.none_ ?_)
    refine As.cons (Pe.ev Pe.int ?_)
    refine As.nil ⟨len_small (by rfl), fun l hl => ?_⟩
    dsimp only at hl
    have X2 := L1.push hlt hl
    have hlL : LR ≠ l := fun z => by rw [← z, hL'] at hl; cases hl
    have k2 : Same (upd H' CR (.list [.int (top + (i + 1 : Nat) * (1 + y)) 0, .int c1 0, .bool c2])) (upd (upd H' CR (.list [.int (top + (i + 1 : Nat) * (1 + y)) 0, .int c1 0, .bool c2])) l (rowO ⟨top + (i + 1 : Nat) * (1 + y), 0, none, 0⟩ .none)) := same_new hl
    refine As.nil ?_
    refine CallTo.append (k2.at hL') (len_k (by omega)) ?_
    have kp : Keep (fun x => x = LR) (upd (upd H' CR (.list [.int (top + (i + 1 : Nat) * (1 + y)) 0, .int c1 0, .bool c2])) l (rowO ⟨top + (i + 1 : Nat) * (1 + y), 0, none, 0⟩ .none)) (upd (upd (upd H' CR (.list [.int (top + (i + 1 : Nat) * (1 + y)) 0, .int c1 0, .bool c2])) l (rowO ⟨top + (i + 1 : Nat) * (1 + y), 0, none, 0⟩ .none)) LR (.list (refs (ls ++ ls') ++ [.ref l]))) := Keep.upd rfl
    refine Exs.nil ⟨pm_ne (by rfl) m1, kp.get (k2.at m2') (fun z => by rw [z, hL'] at m2'; cases m2'), kp.get (k2.at m3') (fun z => by rw [z, hL'] at m3'; cases m3'), ?_, ls' ++ [l], N ++ [⟨top + (i + 1 : Nat) * (1 + y), 0, none, 0⟩], by rw [List.length_append, e1]; rfl, fun r hr => ?_, ?_⟩
    · exact ((k1.trans (Keep.upd (.inr (.inl rfl)))).trans (Same.weak k2)).trans (kp.weak fun x z => .inl z)
    · rcases List.mem_append.mp hr with hr | hr
      · exact e2 r hr
      · simp at hr; subst hr; exact ⟨rfl, rfl, rfl⟩
    · rw [← List.append_assoc, ← List.append_assoc]; exact X2
  · rintro ⟨m', H'⟩ ⟨m1, m2, m3, k1, ls', N, e1, e2, L1⟩
    dsimp only at m1 m2 m3 k1 L1
    have hlen := L1.len
    refine Exs.cons ?_
    refine Ex.ret ?_
    refine Ev.tuple ?_
    refine As.cons (Pe.ev Pe.str ?_)
    refine As.cons (Pe.ev (call_len G E (by rfl) (Pe.ce E (by rfl) (by rfl) m2 (by rfl)) L1.list (by rw [hlen, List.length_append]; omega)) ?_)
    refine As.nil ⟨len_small (by rfl), fun A hA => ?_⟩
    dsimp only at hA ⊢
    rw [hlen, List.length_append]
    have k2 := same_new (o := .tup [.str "exists" 0, .int (R.length + N.length : Nat) 0]) hA
    refine k _ A (ls ++ ls') (R ++ N) _ c1 c2 (k1.trans (Same.weak k2)) (L1.same k2) (by rw [List.length_append]; omega) ?_ (.ex N e2 (upd_self _ _ _)) _
    have : ((1 + j : Nat) : Int) * (1 + y) ≤ 3 * 2 := Int.mul_le_mul (by omega) (by omega) (by omega) (by omega)
    omega
end
end Mine
end
section
set_option maxRecDepth 100000
set_option Elab.async false
set_option linter.unusedVariables false
set_option maxHeartbeats 4000000
namespace Mine
open PySem PySem.W PySem.Calls PyProof.Rows
section
variable {P : Params} {C : Cx} {env : Env} {σ : St} {LR CR : Addr} {ls : List Addr} {R : List Rw} {top c1 q : Int} {c2 : Bool} {Ψ : Flow → St → Prop}
def intVals (us : List Int) : List Value := us.map fun u => .int u 0
theorem intVals_len (us : List Int) : (intVals us).length = us.length := by simp [intVals]
/-- the uids that are to go -/
structure GoneIs (R : List Rw) (us : List Int) : Prop where
  ne : us ≠ []
  len : us.length ≤ 3
  asc : us.Pairwise (· < ·)
  mem : ∀ u ∈ us, ∃ (i : Nat) (r : Rw), R[i]? = some r ∧ r.hid = u
theorem log_pow {i : Nat} (h : i ≤ 1000) : ((2 : Int) ^ i).natAbs.log2 < 9000 := by
  rw [Int.natAbs_pow]
  show (2 ^ i).log2 < 9000
  rw [Nat.log2_two_pow]; omega
theorem pow_ne {i : Nat} : ((2 : Int) ^ i) ≠ 0 := by
  have : (0 : Int) < 2 ^ i := Int.pow_pos (by decide)
  omega
/-- the comprehension of those that are to go -/
theorem ans_gone (G : Gr P C.b) (ok : OkA C.A 1) (E : EnvIs env C.L n_law_answer (ansCells C.L)) (X : AnsAt σ C.L LR CR ls R top c1 c2 q)
    (k : ∀ H' g us, Same σ.H H' → σ.H g = none → H' g = some (.list (intVals us)) → us.length ≤ 3 → us.Pairwise (· < ·) → (∀ u ∈ us, ∃ (i : Nat) (r : Rw), R[i]? = some r ∧ r.hid = u) → Exs C env ((bd 4).drop 1) ⟨putM σ.m "gone" (.ref g), H'⟩ Ψ) : Exs C env (bd 4) σ Ψ := by
  have hz := X.zR
  have hlen := X.law.len
  refine Exs.cons ?_
  refine Ex.assign rfl E.kind (E.kinds _ _ (by rfl)) E.loc ?_
  refine Ev.slice (lo := none) (hi := some 3) (st := none) ?_
  refine Ev.compPR (C := C) G ok.hd [("at", .local), ("rest", .cell), ("rows", .cell)] E (cl := [("rows", C.L + 1), ("rest", C.L + 1 + 1)]) (Nat.le_refl _) (by
    obtain ⟨⟩ := env
    have := E.cells
    dsimp only at this
    subst this
    rfl) (by decide) rfl (by decide) (by rfl) (by rfl) ?_
  refine Ev.call G (Pe.ev (nm_range E G (by rfl)) ⟨.inr (.inl ⟨_, rfl⟩), ?_⟩)
  refine As.cons (Pe.ev (call_len G E (by rfl) (Pe.ce E (by rfl) (by rfl) X.hr (by rfl)) X.law.list (by omega)) ?_)
  refine As.nil (CallTo.range1 fun r hr => ?_)
  have k0 := same_new (o := .range 0 (0 + (refs ls).length)) hr
  have L0 := X.law.same k0
  refine ⟨r, 0, R.length, fun i => (goneF R (fun i => (q.fdiv (2 ^ i)).fmod 2 == 1) i).map fun u => .int u 0, rfl, by dsimp only; rw [upd_self, hlen], by omega, by omega, by omega, fun b' L' F i m env' Gb' Ec hi => ?_, fun l hl => ?_⟩
  · have hri : R[i]? = some R[i] := by simp [hi]
    generalize R[i] = ri at hri
    obtain ⟨a, ha, fv, hf, ho⟩ := L0.rows.both' hri
    have e : ((goneF R (fun i => (q.fdiv (2 ^ i)).fmod 2 == 1) i).map fun u => Value.int u 0) = if ((q.fdiv (2 ^ i)).fmod 2 == 1) = true then some (.int ri.hid 0) else none := by
      unfold goneF
      rw [hri]
      show Option.map _ (if ((q.fdiv (2 ^ i)).fmod 2 == 1) = true then some ri.hid else none) = _
      split <;> rfl
    dsimp only
    rw [e]
    have hi0 : (0 + (i : Int)).toNat = i := by omega
    refine PureElt.ifs (x := (q.fdiv (2 ^ i)).fmod 2 == 1) ?_ fun _ => ?_
    · refine Pt.cmp (Pe.binop (Pe.binop (Pe.ce Ec (by rfl) (by rfl) (k0.at X.hq) (by rfl)) (Pe.to (Pe.binop Pe.int (Pe.lm Ec (by rfl) (by rfl)) (OpTo.pow (by omega) (by omega) (by decide))) (y := .int (2 ^ i) 0) (by rw [hi0])) (OpTo.div pow_ne (log_pow (by omega)))) Pe.int (OpTo.mod (by decide))) Pe.int CmpTo.eq (by rfl)
    · exact Pe.item (law_row (Pe.ce Ec (by rfl) (by rfl) (k0.at X.hr) (by rfl)) (Pe.lm Ec (by rfl) (by rfl)) L0.list (by omega) ha (by omega)) Pe.int ho (by decide) (by decide) (by rfl)
  · rw [goneF_map]
    have kl := same_new (o := .list (((List.range R.length).filterMap (goneF R (fun i => (q.fdiv (2 ^ i)).fmod 2 == 1))).map fun u => Value.int u 0)) hl
    refine ⟨l, _, rfl, upd_self _ _ _, Pp.none, Pp.some Pe.int, Pp.none, by simp, len_k ?_, fun g hg => ?_⟩
    · rw [List.length_map]
      have := List.length_filterMap_le (goneF R (fun i => (q.fdiv (2 ^ i)).fmod 2 == 1)) (List.range R.length)
      rw [List.length_range] at this
      omega
    · have e3 : (3 : Int) = ((3 : Nat) : Int) := rfl
      rw [e3, slicePick_upto', ← List.map_take] at *
      refine k _ g _ ((k0.trans kl).trans (same_new hg)) (Same.none (k0.trans kl) hg) (upd_self _ _ _) ?_ ?_ ?_
      · rw [List.length_take]; omega
      · exact goneF_asc X.law.good
      · exact fun u hu => goneF_mem hu
theorem ans_vanish (G : Gr P C.b) (ok : OkA C.A 3) (E : EnvIs env C.L n_law_answer (ansCells C.L)) (X : AnsAt σ C.L LR CR ls R top c1 c2 q) (hne : 0 < R.length)
    (k : AnsK σ.H LR CR ls R top c1 c2 fun v H' => ∀ m', Ψ (.ret v) ⟨m', H'⟩) : Exs C env (bd 4) σ Ψ := by
  refine ans_gone G (ok.le (by omega)) E X fun H1 g1 us1 k1 n1 hg1 z1 p1 a1 => ?_
  have hz := X.zR
  have L1 := X.law.same k1
  -- at least one of them
  refine Exs.cons ?_
  refine Ex.mono (Φ := fun f σ' => f = .next ∧ ∃ g us, σ'.m = putM σ.m "gone" (.ref g) ∧ Same σ.H σ'.H ∧ σ.H g = none ∧ σ'.H g = some (.list (intVals us)) ∧ GoneIs R us) ?_ ?_
  · refine Ex.if_ ?_
    refine It.cmpH (by rfl) ?_
    refine Pe.ev (Pe.l E (by rfl) pm_self (by rfl)) ?_
    refine Ev.list ?_
    refine As.nil ⟨len_small (by rfl), fun e he => ?_⟩
    have k2 := same_new (o := .list []) he
    refine ⟨_, CmpH.eqNil ok (k2.at hg1) (upd_self _ _ _), ?_⟩
    cases us1 with
    | cons u t =>
      rw [if_neg (by simp [intVals])]
      exact Exs.nil ⟨rfl, g1, u :: t, rfl, k1.trans k2, n1, k2.at hg1, by simp, z1, p1, a1⟩
    | nil =>
      rw [if_pos (show (intVals []).isEmpty = true from rfl)]
      have L2 := L1.same k2
      have hr : R[0]? = some R[0] := by simp [hne]
      generalize R[0] = r at hr
      obtain ⟨l, hl, fv, hf, ho⟩ := L2.rows.both' hr
      refine Exs.cons ?_
      refine Ex.assign rfl E.kind (E.kinds _ _ (by rfl)) E.loc ?_
      refine Ev.list ?_
      refine As.cons ?_
      refine Pe.ev (Pe.item (law_row (Pe.ce E (by rfl) (by rfl) (k2.at (k1.at X.hr)) (by rfl)) Pe.int L2.list (i := 0) rfl hl (by decide)) Pe.int ho (by decide) (by decide) (by rfl)) ?_
      refine As.nil ⟨len_small (by rfl), fun g hg => ?_⟩
      have k3 := same_new (o := .list [.int r.hid 0]) hg
      refine Exs.nil ⟨rfl, g, [r.hid], by funext y; simp only [putM]; split <;> rfl, (k1.trans k2).trans k3, Same.none (k1.trans k2) hg, upd_self _ _ _, by simp, by simp, by simp, fun u hu => ?_⟩
      simp at hu
      subst hu
      exact ⟨0, r, hr, rfl⟩
  rintro f ⟨m2, H2⟩ ⟨rfl, g, us, em, k2, n2, hg, D⟩
  dsimp only at em k2 hg
  subst em
  have L2 := X.law.same k2
  obtain ⟨Rs, e0, el, st, gd⟩ := vanish_seq us R X.law.good D.asc D.mem
  have hgL : g ≠ LR := fun z => by rw [z, X.law.list] at n2; cases n2
  have hgl : g ∉ ls := fun z => by
    obtain ⟨vs, ho⟩ := X.law.rows.ne z
    rw [n2] at ho; cases ho
  have hgn : ¬ (g = LR ∨ g ∈ ls) := fun z => z.elim hgL hgl
  have hcl : ∀ {a : Addr} {v : Value}, σ.H a = some (.cell v) → ¬ LawS LR CR ls a := fun {a v} e => by
    rintro (z | z | z)
    · rw [z, X.law.list] at e; cases e
    · rw [z, X.law.cnt] at e; cases e
    · obtain ⟨vs, ho⟩ := X.law.rows.ne z
      rw [e] at ho; cases ho
  refine Exs.cons ?_
  refine Ex.forL ok.hd E (by rfl) ?_
  refine Pe.ev (Pe.l E (by rfl) pm_self (by rfl)) ?_
  refine ⟨g, intVals us, rfl, hg, fun i σ' => σ'.m "gone" = some (.ref g) ∧ Keep (fun x => x = LR ∨ x ∈ ls) H2 σ'.H ∧ ∃ ls', (∀ x ∈ ls', x ∈ ls) ∧ LawIs σ'.H LR CR ls' (Rs i) top c1 c2, ⟨pm_self, Keep.refl, ls, fun x hx => hx, e0 ▸ L2⟩, fun i σ' h => h.2.1.get hg hgn, ?_, ?_⟩
  · rintro F i v ⟨m', H'⟩ hv ⟨m1, k3, ls', sub, L3⟩
    dsimp only at m1 k3 L3
    unfold intVals at hv
    rw [List.getElem?_map] at hv
    obtain ⟨u, hu, rfl⟩ := Option.map_eq_some_iff.mp hv
    obtain ⟨A, a, p, N⟩ := st i u hu
    have hil := (List.getElem?_eq_some_iff.mp hu).1
    have hgi := (gd i (by omega)).2
    have hrc : H' (C.L + 1) = some (.cell (.ref LR)) := k3.get (k2.at X.hr) (by
      rintro (z | z)
      · exact hcl X.hr (.inl z)
      · exact hcl X.hr (.inr (.inr z)))
    refine Exs.cons ?_
    refine Ex.expr ?_ E.quiet rfl
    refine Ev.call (C := { C with F := F }) G ?_
    refine Pe.ev (Pe.g (C := { C with F := F }) E G (by rfl) (g_law_vanish P) (by rfl)) ⟨k_law_vanish P, ?_⟩
    refine As.cons (Pe.ev (Pe.ce E (by rfl) (by rfl) hrc (by rfl)) ?_)
    refine As.cons (Pe.ev (Pe.l E (by rfl) pm_self (by rfl)) ?_)
    refine As.nil (CodeTo.call ?_)
    refine law_vanish_spec (C := { C with F := F }) G (by exact ok.le (by omega)) L3.list L3.rows L3.inj A (by have := X.zt; omega) (by omega) N fun H5 k5 lv5 hL5 R5 => ?_
    have hCL : ¬ (CR = LR ∨ CR ∈ ls') := by
      rintro (z | z)
      · exact L3.ne z.symm
      · exact L3.notC z
    refine Exs.nil ⟨pm_ne (by rfl) m1, k3.trans (k5.weak fun x z => z.imp id (sub x)), ls'.eraseIdx a, fun x hx => sub x (mem_erase hx), hL5, k5.get L3.cnt hCL, R5, L3.inj.erase a, (gd (i + 1) (by omega)).1, L3.nn⟩
  · rintro ⟨m', H3⟩ ⟨m1, k3, ls', sub, L3⟩
    dsimp only at m1 k3 L3
    rw [intVals_len] at L3
    have hg3 : H3 g = some (.list (intVals us)) := k3.get hg hgn
    refine Exs.cons ?_
    refine Ex.ret ?_
    refine Ev.tuple ?_
    refine As.cons (Pe.ev Pe.str ?_)
    refine As.cons ?_
    refine Ev.call G (Pe.ev (nm_tuple E G (by rfl)) ⟨.inr (.inl ⟨_, rfl⟩), ?_⟩)
    refine As.cons ?_
    refine Ev.compE (C := C) G ok.hd [("uid", .local)] E (cl := []) (Nat.zero_le _) rfl (by decide) rfl (by decide) (by rfl) (by rfl) ?_
    refine Pe.ev (Pe.l E (by rfl) m1 (by rfl)) ?_
    refine ⟨g, intVals us, _, _, rfl, IterOver.list (C := C) ok.hd g _, hg3, MakesIter.list hg3, len_k (by rw [intVals_len]; have := D.len; omega), fun i acc σ' => Same H3 σ'.H ∧ IntPairs σ'.H acc ((us.take i).map fun u => (u, u)), ⟨Keep.refl, .nil⟩, fun i acc σ' h => h.1.at hg3, ?_, ?_⟩
    · rintro b' L' F i v acc ⟨m'', H''⟩ env' Gb' Ec hv ⟨j1, j2⟩
      dsimp only at j1 j2
      unfold intVals at hv
      rw [List.getElem?_map] at hv
      obtain ⟨u, hu, rfl⟩ := Option.map_eq_some_iff.mp hv
      refine CompElt.one ?_
      refine Ev.tuple ?_
      refine As.cons (Pe.ev (Pe.lm Ec (by rfl) (by rfl)) ?_)
      refine As.cons (Pe.ev (Pe.lm Ec (by rfl) (by rfl)) ?_)
      refine As.nil ⟨len_small (by rfl), fun y hy => ?_⟩
      have ky := same_new (o := .tup [.int u 0, .int u 0]) hy
      refine ⟨j1.trans ky, ?_⟩
      rw [take_snoc hu, List.map_append]
      exact (j2.same' ky).app (IntPairs.one (upd_self _ _ _))
    · rintro acc ⟨m'', H4⟩ ⟨j1, j2⟩ n hn
      dsimp only at j1 j2 hn
      rw [intVals_len, List.take_length] at j2
      have kn := same_new (o := .list acc) hn
      refine As.nil ?_
      refine CallTo.tuple (upd_self _ _ _) (len_k (by rw [j2.len, List.length_map]; have := D.len; omega)) fun T hT => ?_
      have kT := same_new (o := .tup acc) hT
      refine As.cons (Pe.ev Pe.bool ?_)
      refine As.nil ⟨len_small (by rfl), fun A hA => ?_⟩
      have kA := same_new (o := .tup [.str "vanished" 0, .ref T, .bool false]) hA
      have kk := ((j1.trans kn).trans kT).trans kA
      refine k _ A ls' (Rs us.length) top c1 c2 (((Same.weak k2).trans (k3.weak fun x z => z.imp id .inr)).trans (Same.weak kk)) (L3.same kk) (by have := (gd us.length (Nat.le_refl _)).2; omega) (by omega) ?_ _
      exact .vanished us T acc Rs (kA.at (upd_self _ _ _)) (((j2.same' kn).same' kT).same' kA) (asc_of D.asc fun u hu => by obtain ⟨i, r, hr, rfl⟩ := D.mem u hu; exact (X.law.good.pos i r hr).1) D.ne D.len el e0 st (upd_self _ _ _)
end
end Mine
end
section
set_option maxRecDepth 100000
set_option Elab.async false
set_option linter.unusedVariables false
set_option maxHeartbeats 400000
namespace Mine
open PySem PySem.W PySem.Calls PyProof.Rows
section
variable {C : Cx} {env : Env} {σ : St} {Φ : Flow → St → Prop} {value : Expr} {pos : Pos}
/-- two names of any kind from a pair, from the front -/
theorem Ex.assign2g {x y : Str} {px py tp : Pos} {kk : Nat} (hs : swapsWithSole [.Tuple [.Name x px, .Name y py] kk tp] value pos.line env = pure false) (hw : swappedStores [.Tuple [.Name x px, .Name y py] kk tp] value env = pure none)
    (hd : C.A.handled = none)
    (h : Ev C env value σ fun v σ₁ => ∃ t a b, v = .ref t ∧ σ₁.H t = some (.tup [a, b]) ∧ ∀ va vb, er va = a → er vb = b → Tr C (storeName env x va) σ₁ fun _ σ₂ => Tr C (storeName env y vb) σ₂ fun _ σ₃ => Φ .next σ₃) : Ex C env (.Assign [.Tuple [.Name x px, .Name y py] kk tp] value pos) σ Φ := fun s S =>
  Assign_Tuple (Tr.run h S fun v σ₁ h₁ k₁ S₁ ⟨t, a, b, q, ht, p₁⟩ => by
    rw [er_ref q]
    obtain ⟨vs', hT, em⟩ := tup_is S₁ ht
    obtain ⟨va, vb, rfl, e1, e2⟩ := map_er2 em
    refine assign_Tuple_tuple hd hT rfl rfl fun h' he => ?_
    have S₂ := S₁.all (ext_size he)
    refine assignInOrder_cons (wpAny_assign_Name (Tr.run (s := { s with heap := h', toks := k₁ }) (p₁ va vb e1 e2) S₂ fun _ σ₂ h₂ k₂ S₃ q₂ => ?_))
    refine assignInOrder_cons (wpAny_assign_Name (Tr.run q₂ S₃ fun _ σ₃ h₃ k₃ S₄ q₃ => ?_))
    exact assignInOrder_nil ⟨σ₃, h₃, k₃, rfl, S₄, q₃⟩) hs hw
theorem swapped_none {x y : Str} {px py tp tv p1 p2 : Pos} {kk kv : Nat} {a1 b1 a2 b2 : Expr} {o1 o2 : Operator} (hx : env.kindOf x = some .local) (hy : env.kindOf y = some .cell) (hb : env.blockKind = .function) :
    swappedStores [.Tuple [.Name x px, .Name y py] kk tp] (.Tuple [.BinOp a1 o1 b1 p1, .BinOp a2 o2 b2 p2] kv tv) env = pure none := by
  have e1 : (Expr.Name x px).pos = px := rfl
  unfold swappedStores
  simp [hx, hy, hb, e1]
end
theorem LawIs.keep {S : Addr → Prop} {H H' : AH} {LR CR : Addr} {ls : List Addr} {R : List Rw} {top c1 : Int} {c2 : Bool} (X : LawIs H LR CR ls R top c1 c2) (k : Keep S H H') (hT : ∀ x vs, H x = some (.tup vs) → ¬ S x) (h1 : ¬ S LR) (h2 : ¬ S CR) (h3 : ∀ x ∈ ls, ¬ S x) : LawIs H' LR CR ls R top c1 c2 :=
  ⟨k.get X.list h1, k.get X.cnt h2, X.rows.keep k hT h3, X.inj, X.good, X.nn⟩
section
variable {P : Params} {C : Cx} {env : Env} {σ : St} {LR CR : Addr} {ls : List Addr} {R : List Rw} {top c1 q : Int} {c2 : Bool} {Ψ : Flow → St → Prop}
theorem AnsAt.same {L : Addr} {H' : AH} (X : AnsAt σ L LR CR ls R top c1 c2 q) (k : Same σ.H H') : AnsAt ⟨σ.m, H'⟩ L LR CR ls R top c1 c2 q := ⟨X.mc, k.at X.hr, k.at X.hq, X.law.same k, X.zR, X.zt⟩
theorem AnsK.same {H H' : AH} {Ψ : Value → AH → Prop} (K : AnsK H LR CR ls R top c1 c2 Ψ) (k : Same H H') : AnsK H' LR CR ls R top c1 c2 Ψ := fun H2 A ls' R' t a b k2 => K H2 A ls' R' t a b ((Same.weak k).trans k2)
/-- from the second if on -/
theorem ans_tail (G : Gr P C.b) (ok : OkA C.A 5) (E : EnvIs env C.L n_law_answer (ansCells C.L)) (X : AnsAt σ C.L LR CR ls R top c1 c2 q) {K : Nat} (mk : σ.m "kind" = some (.int K 0)) (hK : K < 8) (h0 : K ≠ 0) (hne : K < 5 → 0 < R.length)
    (k : AnsK σ.H LR CR ls R top c1 c2 fun v H' => ∀ m', Ψ (.ret v) ⟨m', H'⟩) : Exs C env ((bodyF 33).drop 2) σ Ψ := by
  refine Exs.cons ?_
  refine Ex.if_ ?_
  refine It.cmpH (by rfl) ?_
  refine Pe.ev (Pe.l E (by rfl) mk (by rfl)) ?_
  refine Ev.tuple ?_
  refine As.cons (Pe.ev Pe.int ?_)
  refine As.cons (Pe.ev Pe.int ?_)
  refine As.nil ⟨len_small (by rfl), fun t ht => ?_⟩
  have k1 := same_new (o := .tup [.int 1 0, .int 2 0]) ht
  refine ⟨_, CmpH.inInts (ns := [1, 2]) (upd_self _ _ _), ?_⟩
  have X1 := X.same k1
  have K1 := k.same k1
  show if _ then Exs C env _ ⟨σ.m, upd σ.H t (.tup [.int 1 0, .int 2 0])⟩ _ else Exs C env _ ⟨σ.m, upd σ.H t (.tup [.int 1 0, .int 2 0])⟩ _
  generalize upd σ.H t (.tup [.int 1 0, .int 2 0]) = H1 at X1 K1
  by_cases h12 : K = 1 ∨ K = 2
  · rw [if_pos (by rcases h12 with rfl | rfl <;> rfl)]
    exact ans_fetch (Ψ := fun f σ₁ => match f with | .next => _ | f => Ψ f σ₁) G ok E X1 (hne (by omega)) K1
  rw [if_neg (by simp; omega)]
  refine Exs.nil ?_
  refine Exs.cons ?_
  by_cases h3 : K = 3
  · subst h3
    refine Ex.ifP (c := true) (Pt.to (Pt.cmp (Pe.l E (by rfl) mk (by rfl)) Pe.int CmpTo.eq (by rfl)) (by rfl)) (fun _ => ?_) fun h => absurd h (by decide)
    exact ans_expunge (Ψ := fun f σ₁ => match f with | .next => _ | f => Ψ f σ₁) G (ok.le (by omega)) E X1 (hne (by omega)) K1
  refine Ex.ifP (c := false) (Pt.to (Pt.cmp (Pe.l E (by rfl) mk (by rfl)) Pe.int CmpTo.eq (by rfl)) (by rw [beq_eq_false_iff_ne]; omega)) (fun h => absurd h (by decide)) fun _ => ?_
  refine Exs.nil ?_
  refine Exs.cons ?_
  by_cases h4 : K = 4
  · subst h4
    refine Ex.ifP (c := true) (Pt.to (Pt.cmp (Pe.l E (by rfl) mk (by rfl)) Pe.int CmpTo.eq (by rfl)) (by rfl)) (fun _ => ?_) fun h => absurd h (by decide)
    exact ans_vanish (Ψ := fun f σ₁ => match f with | .next => _ | f => Ψ f σ₁) G (ok.le (by omega)) E X1 (hne (by omega)) K1
  refine Ex.ifP (c := false) (Pt.to (Pt.cmp (Pe.l E (by rfl) mk (by rfl)) Pe.int CmpTo.eq (by rfl)) (by rw [beq_eq_false_iff_ne]; omega)) (fun h => absurd h (by decide)) fun _ => ?_
  refine Exs.nil ?_
  refine Exs.cons ?_
  by_cases h5 : K = 5
  · subst h5
    refine Ex.ifP (c := true) (Pt.to (Pt.cmp (Pe.l E (by rfl) mk (by rfl)) Pe.int CmpTo.eq (by rfl)) (by rfl)) (fun _ => ?_) fun h => absurd h (by decide)
    exact ans_top (Ψ := fun f σ₁ => match f with | .next => _ | f => Ψ f σ₁) G (ok.le (by omega)) E X1 K1
  refine Ex.ifP (c := false) (Pt.to (Pt.cmp (Pe.l E (by rfl) mk (by rfl)) Pe.int CmpTo.eq (by rfl)) (by rw [beq_eq_false_iff_ne]; omega)) (fun h => absurd h (by decide)) fun _ => ?_
  refine Exs.nil ?_
  refine Exs.cons ?_
  by_cases h6 : K = 6
  · subst h6
    refine Ex.ifP (c := true) (Pt.to (Pt.cmp (Pe.l E (by rfl) mk (by rfl)) Pe.int CmpTo.eq (by rfl)) (by rfl)) (fun _ => ?_) fun h => absurd h (by decide)
    exact ans_ro (Ψ := fun f σ₁ => match f with | .next => _ | f => Ψ f σ₁) G (ok.le (by omega)) E X1 K1
  refine Ex.ifP (c := false) (Pt.to (Pt.cmp (Pe.l E (by rfl) mk (by rfl)) Pe.int CmpTo.eq (by rfl)) (by rw [beq_eq_false_iff_ne]; omega)) (fun h => absurd h (by decide)) fun _ => ?_
  refine Exs.nil ?_
  have h0 : Exs C env lastS ⟨σ.m, H1⟩ Ψ := @ans_rest P C env ⟨σ.m, H1⟩ LR CR ls R top c1 q c2 Ψ G E X1 K1
  show Exs C env lastS ⟨σ.m, H1⟩ Ψ
  with_reducible assumption
end
section
variable {P : Params} {C : Cx} {σ : St} {Φ : Value → St → Prop} {LR CR : Addr} {ls : List Addr} {R : List Rw} {top c1 cell : Int} {c2 : Bool}
theorem law_answer_spec (G : Gr P C.b) (ok : OkA C.A 6) (X : LawIs σ.H LR CR ls R top c1 c2) (zR : R.length ≤ 900) (zt : top ≤ 40000)
    (k : AnsK σ.H LR CR ls R top c1 c2 fun v H' => Φ v ⟨σ.m, H'⟩) : CodeTo C (.ref 327) [.ref LR, .ref CR, .int cell 0] σ Φ := by
  refine (f_law_answer P).callC G ok (bindC3 (n1 := "rows") (n2 := "counts") (n3 := "cell") (fun x y z => by kernel_rfl)) (by rfl) (by decide) fun b L env H₁ Gb okb E k₁ hc hn => ?_
  have hrows := (hc "rows" (L + 1) (by simp)).2
  have hrest := (hc "rest" (L + 1 + 1) (by simp)).2
  have nrest := (hc "rest" (L + 1 + 1) (by simp)).1
  obtain ⟨K, eK, hK⟩ := place_of (n := 8) (by decide) cell
  have X1 := X.same k₁
  refine Exs.cons ?_
  refine Ex.assign2g rfl (swapped_none (E.kinds _ _ (by rfl)) (E.kinds _ _ (by rfl)) E.block) okb.hd ?_
  refine Ev.tuple ?_
  refine As.cons (Pe.ev (Pe.to (Pe.binop (Pe.l E (by rfl) (by rfl) (by rfl)) Pe.int (OpTo.mod (by decide))) (y := .int K 0) (by rw [show cell.fmod 8 = K from eK])) ?_)
  refine As.cons (Pe.ev (Pe.binop (Pe.l E (by rfl) (by rfl) (by rfl)) Pe.int (OpTo.div (by decide) (by decide))) ?_)
  refine As.nil ⟨len_small (by rfl), fun t ht => ?_⟩
  refine ⟨t, _, _, rfl, upd_self _ _ _, fun va vb ea eb => ?_⟩
  have k2 := same_new (o := .tup [.int K 0, .int (cell.fdiv 8) 0]) ht
  refine tr_store E.kind (E.kinds _ _ (by rfl)) E.loc ?_
  refine tr_storeC E.kind (E.kinds _ _ (by rfl)) (ca := L + 1 + 1) (by rw [E.cells]; rfl) (k2.at hrest) (.inl rfl) ?_
  rw [ea, eb]
  have X2 := X1.same k2
  dsimp only at ht k2
  have hcell : upd H₁ t (.tup [.int K 0, .int (cell.fdiv 8) 0]) (L + 1 + 1) = some .hole := k2.at hrest
  have k3 : Keep (fun x => x = L + 1 + 1) (upd H₁ t (.tup [.int K 0, .int (cell.fdiv 8) 0])) (upd (upd H₁ t (.tup [.int K 0, .int (cell.fdiv 8) 0])) (L + 1 + 1) (.cell (.int (cell.fdiv 8) 0))) := Keep.upd rfl
  have X3 := X2.keep k3 (fun x vs e z => by rw [z, hcell] at e; cases e) (fun z => by have := X2.list; rw [z, hcell] at this; cases this) (fun z => by have := X2.cnt; rw [z, hcell] at this; cases this) (fun x hx z => by
    obtain ⟨vs, ho⟩ := X2.rows.ne hx
    rw [z, hcell] at ho; cases ho)
  have kall : Same σ.H (upd (upd H₁ t (.tup [.int K 0, .int (cell.fdiv 8) 0])) (L + 1 + 1) (.cell (.int (cell.fdiv 8) 0))) := fun x o _ e => by
    have hx : x ≠ L + 1 + 1 := fun z => by rw [z, nrest] at e; cases e
    rw [upd_ne hx]; exact k2.at (k₁.at e)
  have hq3 : upd (upd H₁ t (.tup [.int K 0, .int (cell.fdiv 8) 0])) (L + 1 + 1) (.cell (.int (cell.fdiv 8) 0)) (L + 1 + 1) = some (.cell (.int (cell.fdiv 8) 0)) := upd_self _ _ _
  have hr3 : upd (upd H₁ t (.tup [.int K 0, .int (cell.fdiv 8) 0])) (L + 1 + 1) (.cell (.int (cell.fdiv 8) 0)) (L + 1) = some (.cell (.ref LR)) := k3.get (k2.at hrows) (Nat.ne_of_lt (Nat.lt_succ_self (L + 1)))
  show Exs _ env _ ⟨putM _ "kind" (.int K 0), upd (upd H₁ t (.tup [.int K 0, .int (cell.fdiv 8) 0])) (L + 1 + 1) (.cell (.int (cell.fdiv 8) 0))⟩ _
  generalize upd (upd H₁ t (.tup [.int K 0, .int (cell.fdiv 8) 0])) (L + 1 + 1) (.cell (.int (cell.fdiv 8) 0)) = H3 at X3 kall hq3 hr3
  have K3 := k.same kall
  generalize hm : putM (fun x => List.lookup x (abL n_law_answer [(("rows" : Str), Value.ref LR), ("counts", .ref CR), ("cell", .int cell 0)]).reverse) "kind" (.int K 0) = m3
  have mk : m3 "kind" = some (.int K 0) := by rw [← hm]; rfl
  have mc : m3 "counts" = some (.ref CR) := by rw [← hm]; rfl
  have A3 : AnsAt ⟨m3, H3⟩ L LR CR ls R top c1 c2 (cell.fdiv 8) := ⟨mc, hr3, hq3, X3, zR, zt⟩
  refine Exs.cons ?_
  refine Ex.if_ ?_
  refine It.or2 ?_
  by_cases h0 : K = 0
  · subst h0
    refine Pt.it (x := true) (Pt.to (Pt.cmp (Pe.l E (by rfl) mk (by rfl)) Pe.int CmpTo.eq (by rfl)) (by rfl)) ?_
    rw [if_pos rfl, if_pos rfl]
    exact ans_exists (C := C.call env b L) (Ψ := fun f σ₁ => match f with | .next => _ | f => Φ (retv f) ⟨σ.m, σ₁.H⟩) Gb (okb.le (by omega)) E A3 fun H' A ls' R' t' a' b' h1 h2 h3 h4 h5 m' => K3 H' A ls' R' t' a' b' h1 h2 h3 h4 h5
  refine Pt.it (x := false) (Pt.to (Pt.cmp (Pe.l E (by rfl) mk (by rfl)) Pe.int CmpTo.eq (by rfl)) (by rw [beq_eq_false_iff_ne]; omega)) ?_
  rw [if_neg (by decide)]
  refine It.and2 ?_
  refine It.cmpH (by rfl) ?_
  refine Pe.ev (Pe.ce E (by rfl) (by rfl) hr3 (by rfl)) ?_
  refine Ev.list ?_
  refine As.nil ⟨len_small (by rfl), fun e he => ?_⟩
  have k4 := same_new (o := .list []) he
  refine ⟨_, CmpH.eqNil okb (k4.at X3.list) (upd_self _ _ _), ?_⟩
  have A4 := A3.same k4
  have K4 := K3.same k4
  dsimp only at A4 K4 ⊢
  generalize upd H3 e (.list []) = H4 at A4 K4
  by_cases hR : 0 < R.length
  · rw [if_neg (by
      have := X3.rows.len
      cases ls with
      | nil => simp at this; omega
      | cons a t => simp [refs])]
    rw [if_neg (by decide)]
    refine Exs.nil ?_
    exact ans_tail (C := C.call env b L) (Ψ := fun f σ₁ => Φ (retv f) ⟨σ.m, σ₁.H⟩) Gb okb E A4 mk hK h0 (fun _ => hR) fun H' A ls' R' t' a' b' h1 h2 h3 h4 h5 m' => K4 H' A ls' R' t' a' b' h1 h2 h3 h4 h5
  · rw [if_pos (by
      have := X3.rows.len
      cases ls with
      | nil => rfl
      | cons a t => simp at this; omega)]
    by_cases h5 : K < 5
    · refine Pt.it (x := true) (Pt.to (Pt.cmp (Pe.l E (by rfl) mk (by rfl)) Pe.int CmpTo.lt (by rfl)) (by simp; omega)) ?_
      rw [if_pos rfl]
      exact ans_exists (C := C.call env b L) (Ψ := fun f σ₁ => match f with | .next => _ | f => Φ (retv f) ⟨σ.m, σ₁.H⟩) Gb (okb.le (by omega)) E A4 fun H' A ls' R' t' a' b' h1 h2 h3 h4 h5 m' => K4 H' A ls' R' t' a' b' h1 h2 h3 h4 h5
    · refine Pt.it (x := false) (Pt.to (Pt.cmp (Pe.l E (by rfl) mk (by rfl)) Pe.int CmpTo.lt (by rfl)) (by simp; omega)) ?_
      rw [if_neg (by decide)]
      refine Exs.nil ?_
      exact ans_tail (C := C.call env b L) (Ψ := fun f σ₁ => Φ (retv f) ⟨σ.m, σ₁.H⟩) Gb okb E A4 mk hK h0 (fun h => absurd h h5) fun H' A ls' R' t' a' b' h1 h2 h3 h4 h5 m' => K4 H' A ls' R' t' a' b' h1 h2 h3 h4 h5
end
end Mine
end
section
set_option maxRecDepth 100000
set_option Elab.async false
set_option linter.unusedVariables false
set_option maxHeartbeats 400000
namespace Mine
open PySem PySem.W PySem.Calls PyProof.Rows
section
variable {P : Params} {C : Cx} {σ : St} {Φ : Value → St → Prop} {c A : Addr} {d : CopyD} {hs : List Addr} {R R' : List Rw} {top t0 c1 : Int} {c2 : Bool}
theorem CopyIs.fresh {H : AH} (X : CopyIs H c d hs R) {x : Addr} (h : x ∈ hs) : H x ≠ none := fun z => by
  obtain ⟨u, f, m, ho⟩ := X.helds.ne h
  rw [z] at ho; cases ho
/-- whatever the answer is, the copy takes it -/
theorem take_ans (G : Gr P C.b) (ok : OkA C.A 7) (X : CopyIs σ.H c d hs R) (I : Inj hs) (Gd : Good R t0) (htop : top ≤ 50000) (hz : R'.length ≤ 1000) (N : Ans σ.H A R top d.top d.ro R' c1 c2)
    (k : ∀ H' d' hs', Keep (fun x => x = c ∨ x = d.rows ∨ x ∈ hs) σ.H H' → (σ.H d'.rows = none ∨ d'.rows = d.rows) → d'.top = c1 → d'.ro = c2 → Inj hs' → CopyIs H' c d' hs' R' → Φ .none ⟨σ.m, H'⟩) : CodeTo C (.ref 215) [.ref c, .ref A] σ Φ := by
  have ok5 : OkA C.A 5 := ok.le (by omega)
  have w1 : ∀ x : Addr, x = c → x = c ∨ x = d.rows ∨ x ∈ hs := fun x z => .inl z
  cases N with
  | ex N hN hA =>
    rw [List.length_append] at hz
    exact take_a_exists G ok5 X hN hz hA fun H' r' hs' k1 h1 h2 h3 Y => k H' { d with rows := r' } _ (k1.weak w1) (.inl h1) rfl rfl (I.app (Inj.ofNodup h3) fun x hx z => X.fresh hx (h2 x z)) Y
  | expunge i hi hA => exact take_a_expunge G ok5 X hi hA fun H' r' k1 h1 Y => k H' { d with rows := r' } _ (k1.weak w1) (.inl h1) rfl rfl (I.erase i) Y
  | vanished us S vs Rs h1 h2 h3 h4 h5 h6 h7 h8 hA =>
    exact take_a_vanished G ok X I h1 h2 h3 h4 h5 h6 htop h7 h8 hA fun H' r' hs' k1 _ q1 q2 q3 Y => k H' { d with rows := r' } _ (k1.weak fun x z => z.imp id .inl) q1 rfl rfl q2 Y
  | kept S hA => exact take_a_kept G ok5 X hA fun H' kd k1 h1 Y => k H' { d with kept := kd } _ (k1.weak w1) (.inr rfl) rfl rfl I Y
  | fetch i T r r' vs es W h1 h2 h3 h4 h5 h6 h7 h8 hA =>
    have hil := (List.getElem?_eq_some_iff.mp h1).1
    obtain ⟨h, hh⟩ : ∃ h, hs[i]? = some h := ⟨hs[i]'(by rw [X.helds.len]; exact hil), by simp [X.helds.len, hil]⟩
    refine take_a_fetch G ok5 X I hh h1 h3 h4 h5 h6 h7 (fun uid hu j s hs' => ?_) hA fun H' r2 k1 _ KT Y => ?_
    · have e := h8 uid hu
      have hp := (Gd.pos j s hs').1
      rcases Gd.kn j s hs' with q | q
      · exact .inl q
      · refine .inr ⟨by omega, fun hj => ?_, fun hj => ?_, fun hj => ?_⟩
        · have := Gd.asc j i s r hj hs' h1; omega
        · subst hj; rw [h1] at hs'; cases hs'; omega
        · have := Gd.asc i j r s hj h1 hs'; omega
    · rw [KT.uniq h2] at Y
      exact k H' d hs (k1.weak fun x z => .inr (.inr (z ▸ List.mem_of_getElem? hh))) (.inr rfl) rfl rfl I Y
  | okn t w hA => exact take_a_ok G ok5 hA (k σ.H d hs Keep.refl (.inr rfl) rfl rfl I X)
  | top t w n l a h1 h2 hA => exact take_a_top G ok5 X h1 h2 hA fun H' k1 Y => k H' { d with top := if (t != ("*" : Str)) then max d.top n else d.top } _ (k1.weak w1) (.inr rfl) rfl rfl I Y
  | ro t w x l a h1 h2 hA => exact take_a_ro G ok5 X h1 h2 hA fun H' k1 Y => k H' { d with ro := c2 } _ (k1.weak w1) (.inr rfl) rfl rfl I Y
  | search S hA => exact take_a_search G ok5 hA (k σ.H d hs Keep.refl (.inr rfl) rfl rfl I X)
  | no hA => exact take_a_no (S := A) G ok5 hA (k σ.H d hs Keep.refl (.inr rfl) rfl rfl I X)
end
/-! One turn -/
structure Turn (H : AH) (L c LR CR : Addr) (d : CopyD) (hs ls : List Addr) (R : List Rw) (top c1 : Int) (c2 : Bool) : Prop where
  hr : H (L + 1) = some (.cell (.ref LR))
  law : LawIs H LR CR ls R top c1 c2
  copy : CopyIs H c d hs R
  inj : Inj hs
  dt : d.top = c1
  dr : d.ro = c2
  ne : LR ≠ d.rows
theorem Turn.same {H H' : AH} {L c LR CR : Addr} {d : CopyD} {hs ls : List Addr} {R : List Rw} {top c1 : Int} {c2 : Bool} (X : Turn H L c LR CR d hs ls R top c1 c2) (k : Same H H') : Turn H' L c LR CR d hs ls R top c1 c2 :=
  ⟨k.at X.hr, X.law.same k, X.copy.same k, X.inj, X.dt, X.dr, X.ne⟩
/-- what a turn may change -/
abbrev TurnS (c LR CR : Addr) (d : CopyD) (hs ls : List Addr) (x : Addr) : Prop := LawS LR CR ls x ∨ x = c ∨ x = d.rows ∨ x ∈ hs
/-- a list of ints is none of these -/
theorem Turn.ints {H : AH} {L c LR CR : Addr} {d : CopyD} {hs ls : List Addr} {R : List Rw} {top c1 : Int} {c2 : Bool} (X : Turn H L c LR CR d hs ls R top c1 c2) {g : Addr} {ns : List Int} (hne : ns ≠ []) (h : H g = some (.list (intVals ns))) : ¬ TurnS c LR CR d hs ls g := by
  have nr : ∀ l : List Addr, intVals ns ≠ refs l := fun l e => by
    cases ns with
    | nil => exact hne rfl
    | cons n t => cases l <;> simp [intVals, refs] at e
  rintro ((z | z | z) | z | z | z)
  · rw [z, X.law.list] at h; exact nr _ (AO.list.inj (Option.some.inj h)).symm
  · rw [z, X.law.cnt] at h
    have := AO.list.inj (Option.some.inj h)
    match ns, this with
    | [a, b, e], this => simp [intVals] at this
  · obtain ⟨i, hi⟩ := List.getElem?_of_mem z
    obtain ⟨r, hr, fv, hf, ho⟩ := X.law.rows.both hi
    rw [h] at ho
    have := AO.list.inj (Option.some.inj ho)
    match ns, this with
    | [a, b, e, f], this =>
      simp [intVals] at this
      have hfv := hf.handed
      obtain ⟨_, _, e3, _⟩ := this
      cases hfl : r.fl with
      | none => rw [hfl] at hf; rw [show fv = .none from hf] at e3; cases e3
      | some l => rw [hfl] at hf; obtain ⟨a', q, _⟩ := hf; rw [q] at e3; cases e3
  · rw [z, X.copy.obj] at h; cases h
  · rw [z, X.copy.rows] at h; exact nr _ (AO.list.inj (Option.some.inj h)).symm
  · obtain ⟨u, f, m, ho⟩ := X.copy.helds.ne z
    rw [h] at ho; cases ho
theorem Turn.notCell {H : AH} {L c LR CR : Addr} {d : CopyD} {hs ls : List Addr} {R : List Rw} {top c1 : Int} {c2 : Bool} (X : Turn H L c LR CR d hs ls R top c1 c2) {g : Addr} {v : Value} (h : H g = some (.cell v)) : ¬ TurnS c LR CR d hs ls g := by
  rintro ((z | z | z) | z | z | z)
  · rw [z, X.law.list] at h; cases h
  · rw [z, X.law.cnt] at h; cases h
  · obtain ⟨vs, ho⟩ := X.law.rows.ne z
    rw [h] at ho; cases ho
  · rw [z, X.copy.obj] at h; cases h
  · rw [z, X.copy.rows] at h; cases h
  · obtain ⟨u, f, m, ho⟩ := X.copy.helds.ne z
    rw [h] at ho; cases ho
/-- the law has answered: the copy is as it was -/
theorem CopyIs.afterLaw {H H' : AH} {c LR CR : Addr} {d : CopyD} {hs ls : List Addr} {R : List Rw} {top c1 : Int} {c2 : Bool} (X : CopyIs H c d hs R) (Y : LawIs H LR CR ls R top c1 c2) (hne : LR ≠ d.rows) (k : Keep (LawS LR CR ls) H H') : CopyIs H' c d hs R := by
  have hlist : ∀ x, LawS LR CR ls x → ∃ vs, H x = some (.list vs) := by
    rintro x (z | z | z)
    · exact ⟨_, z ▸ Y.list⟩
    · exact ⟨_, z ▸ Y.cnt⟩
    · exact Y.rows.ne z
  have hn : ∀ {x : Addr} {o : AO}, H x = some o → (∀ vs, o ≠ .list vs) → H' x = some o := fun {x o} e h => k.get e fun z => by
    obtain ⟨vs, q⟩ := hlist x z
    rw [e] at q; exact h vs (Option.some.inj q)
  refine ⟨hn X.obj (by simp [copyO]), k.get X.rows ?_, hn X.kept (by simp), X.helds.keep k (fun x vs e z => by obtain ⟨ws, q⟩ := hlist x z; rw [e] at q; cases q) fun h hh z => ?_, X.small⟩
  · rintro (z | z | z)
    · exact hne z.symm
    · have := Y.cnt
      rw [← z, X.rows] at this
      cases hs <;> simp [refs] at this
    · exact Y.rows.notIn X.rows z
  · obtain ⟨u, f, m, ho⟩ := X.helds.ne hh
    obtain ⟨ws, q⟩ := hlist h z
    rw [ho] at q; cases q
/-- the copy has taken: the law's own are as they were -/
theorem LawIs.afterTake {H H' : AH} {c LR CR : Addr} {d : CopyD} {hs ls : List Addr} {R R0 : List Rw} {top c1 : Int} {c2 : Bool} (Y : LawIs H LR CR ls R top c1 c2) (X : CopyIs H c d hs R0) (hne : LR ≠ d.rows) (k : Keep (fun x => x = c ∨ x = d.rows ∨ x ∈ hs) H H') : LawIs H' LR CR ls R top c1 c2 := by
  have hl : ∀ {x : Addr} {vs : List Value}, H x = some (.list vs) → x ≠ d.rows → ¬ (x = c ∨ x = d.rows ∨ x ∈ hs) := fun {x vs} e h => by
    rintro (z | z | z)
    · rw [z, X.obj] at e; cases e
    · exact h z
    · obtain ⟨u, f, m, ho⟩ := X.helds.ne z
      rw [e] at ho; cases ho
  refine Y.keep k (fun x vs e => ?_) (hl Y.list hne) (hl Y.cnt fun z => ?_) fun x hx => ?_
  · rintro (z | z | z)
    · rw [z, X.obj] at e; cases e
    · rw [z, X.rows] at e; cases e
    · obtain ⟨u, f, m, ho⟩ := X.helds.ne z
      rw [e] at ho; cases ho
  · have := Y.cnt
    rw [z, X.rows] at this
    cases hs <;> simp [refs] at this
  · obtain ⟨vs, ho⟩ := Y.rows.ne hx
    exact hl ho fun z => Y.rows.notIn X.rows (z ▸ hx)
end Mine
end
section
set_option maxRecDepth 100000
set_option Elab.async false
set_option linter.unusedVariables false
set_option maxHeartbeats 400000
namespace Mine
open PySem PySem.W PySem.Calls PyProof.Rows
theorem FlV.deq {H : AH} {fl : Option (List Str)} {v w : Value} (X : FlV H fl v) (Y : FlV H fl w) : DEq H 1 v w := by
  cases fl with
  | none => rw [show v = .none from X, show w = .none from Y]; exact .none 1
  | some l =>
    obtain ⟨a, rfl, ha⟩ := X
    obtain ⟨b, rfl, hb⟩ := Y
    refine .tup 0 a b _ _ ha hb rfl fun i x y e1 e2 => ?_
    rw [e1] at e2
    cases e2
    unfold strVals at e1
    rw [List.getElem?_map] at e1
    obtain ⟨s, _, rfl⟩ := Option.map_eq_some_iff.mp e1
    exact .str 0 s 0 0
theorem Told.deq {H : AH} {vs ws : List Value} {R : List Rw} (X : Told H vs R) (Y : Told H ws R) : vs.length = ws.length ∧ ∀ (i : Nat) v w, vs[i]? = some v → ws[i]? = some w → DEq H 2 v w := by
  refine ⟨by rw [X.1, Y.1], fun i v w e1 e2 => ?_⟩
  have hi := (List.getElem?_eq_some_iff.mp e1).1
  have hr : R[i]? = some (R[i]'(X.1 ▸ hi)) := by simp [X.1 ▸ hi]
  generalize R[i]'(X.1 ▸ hi) = r at hr
  obtain ⟨a, fv, rfl, f1, ha⟩ := X.2 i v r e1 hr
  obtain ⟨b, fw, rfl, f2, hb⟩ := Y.2 i w r e2 hr
  refine .tup 1 a b _ _ ha hb rfl fun j x y g1 g2 => ?_
  match j, g1, g2 with
  | 0, g1, g2 => simp at g1 g2; subst g1; subst g2; exact .int 1 _ 0 0
  | 1, g1, g2 => simp at g1 g2; subst g1; subst g2; exact f1.deq f2
  | 2, g1, g2 => simp at g1 g2; subst g1; subst g2; exact .int 1 _ 0 0
  | n + 3, g1, g2 => simp at g1
theorem allOr_nil {C : Cx} {env : Env} {σ : St} {Φ : Bool → St → Prop} (h : Φ false σ) : AllOr C env [] σ Φ := h
noncomputable def lb : List Stmt := match (bodyF 34)[(2 : Nat)]? with | some (.For _ _ b _ _) => b | _ => []
noncomputable def lbS (j : Nat) : Stmt := match lb[j]? with | some s => s | none => .Break ⟨0, 0, 0, 0⟩
abbrev lawCells (L : Addr) : List (Str × Addr) := [("rows", L + 1)]
section
variable {P : Params} {C : Cx} {env : Env} {m : Str → Option Value} {H : AH} {c LR CR : Addr} {d : CopyD} {hs ls : List Addr} {R : List Rw} {top c1 cell : Int} {c2 : Bool} {Ψ : Flow → St → Prop}
/-- the second statement of a turn -/
theorem turn_told (G : Gr P C.b) (ok : OkA C.A 4) (E : EnvIs env C.L n_law (lawCells C.L)) (X : Turn H C.L c LR CR d hs ls R top c1 c2) (mc : m "copy" = some (.ref c)) {st : Stmt} (hst : st = lbS 1)
    (k : ∀ H', Same H H' → Ψ .next ⟨m, H'⟩) : Ex C env st ⟨m, H⟩ Ψ := by
  subst hst
  have hz := X.copy.small
  have hlen := X.law.len
  refine Ex.if_ ?_
  refine It.cmpH (by rfl) ?_
  refine Ev.meth (C := C) G ?_
  refine Pe.ev (Pe.l E (by rfl) mc (by rfl)) ⟨c, 218, _, 208, rfl, X.copy.obj, m_copy_told P, by rfl, ?_⟩
  refine As.nil (CodeTo.call ?_)
  refine copy_told_spec G (by exact ok.le (by omega)) X.copy fun H3 t u vs k3 ht hu hT => ?_
  have X3 := X.same k3
  have hL3 := X3.law.list
  refine Ev.tuple ?_
  refine As.cons (Pe.ev Pe.str ?_)
  refine As.cons (Pe.ev Pe.int ?_)
  refine As.cons ?_
  refine Ev.call (C := C) G ?_
  refine Pe.ev (nm_tuple E G (by rfl)) ⟨.inr (.inl ⟨_, rfl⟩), ?_⟩
  refine As.cons ?_
  refine Ev.compE (C := C) G ok.hd [("row", .local), ("tuple", .globalImplicit)] E (cl := []) (Nat.zero_le _) rfl (by decide) rfl (by decide) (by rfl) (by rfl) ?_
  refine Pe.ev (Pe.ce E (by rfl) (by rfl) X3.hr (by rfl)) ?_
  refine ⟨LR, refs ls, _, _, rfl, IterOver.list (C := C) ok.hd LR _, hL3, MakesIter.list hL3, len_k (by omega), fun i acc σ' => Same H3 σ'.H ∧ Told σ'.H acc (R.take i), ⟨Keep.refl, Told.nil⟩, fun i acc σ' h => h.1.at hL3, ?_, ?_⟩
  · rintro b' L' F i v acc ⟨m'', H''⟩ env' Gb' Ec hv ⟨j1, j2⟩
    dsimp only at j1 j2
    obtain ⟨l, hl, rfl⟩ := refs_get hv
    obtain ⟨r, hr, hrow⟩ := X3.law.rows.both hl
    obtain ⟨fv, hf, ho⟩ := hrow.same j1
    refine CompElt.one ?_
    refine Ev.call Gb' ?_
    refine Pe.ev (nm_tuple Ec Gb' (by rfl)) ⟨.inr (.inl ⟨_, rfl⟩), ?_⟩
    refine As.cons ?_
    refine Ev.from_ (n := 1) (Pe.lm Ec (by rfl) (by rfl)) ho Pe.int rfl (Nat.le_of_ble_eq_true (by rfl)) fun s hs' => ?_
    have ks := same_new (o := .list (List.drop 1 [.int r.hid 0, .int r.known 0, fv, .int r.ms 0])) hs'
    refine As.nil ?_
    refine CallTo.tuple (upd_self _ _ _) (len_small (by rfl)) fun y hy => ?_
    have ky := same_new (o := .tup (List.drop 1 [.int r.hid 0, .int r.known 0, fv, .int r.ms 0])) hy
    refine ⟨(j1.trans ks).trans ky, ?_⟩
    rw [take_snoc hr]
    exact ((j2.same ks).same ky).snoc (hf.mono (Same.tups (ks.trans ky))) (upd_self _ _ _)
  · rintro acc ⟨m'', H4⟩ ⟨j1, j2⟩ n hn
    dsimp only at j1 j2 hn
    rw [hlen, List.take_length] at j2
    have kn := same_new (o := .list acc) hn
    refine As.nil ?_
    refine CallTo.tuple (upd_self _ _ _) (len_k (by rw [j2.1]; omega)) fun u2 hu2 => ?_
    have ku := same_new (o := .tup acc) hu2
    refine As.nil ⟨len_small (by rfl), fun t2 ht2 => ?_⟩
    have kt := same_new (o := .tup [.str "" 0, .int 0 0, .ref u2]) ht2
    have kk := ((j1.trans kn).trans ku).trans kt
    have D := (hT.same kk).deq (((j2.same kn).same ku).same kt)
    refine ⟨false, CmpH.neTup (n := 3) ok (by decide) (kk.at ht) (upd_self _ _ _) rfl fun i v w e1 e2 => ?_, ?_⟩
    · match i, e1, e2 with
      | 0, e1, e2 => simp at e1 e2; subst e1; subst e2; exact .str 3 _ 0 0
      | 1, e1, e2 => simp at e1 e2; subst e1; subst e2; exact .int 3 _ 0 0
      | 2, e1, e2 => simp at e1 e2; subst e1; subst e2; exact .tup 2 u u2 _ _ (kk.at hu) (kt.at (upd_self _ _ _)) D.1 D.2
      | n + 3, e1, e2 => simp at e1
    · rw [if_neg (by decide)]
      exact Exs.nil (k _ (k3.trans kk))
/-- the third -/
theorem turn_missing (G : Gr P C.b) (ok : OkA C.A 4) (E : EnvIs env C.L n_law (lawCells C.L)) (X : Turn H C.L c LR CR d hs ls R top c1 c2) (mc : m "copy" = some (.ref c)) {st : Stmt} (hst : st = lbS 2)
    (k : ∀ H', Same H H' → Ψ .next ⟨m, H'⟩) : Ex C env st ⟨m, H⟩ Ψ := by
  subst hst
  have hz := X.copy.small
  have hlen := X.law.len
  refine Ex.if_ ?_
  refine It.cmpH (by rfl) ?_
  refine Ev.meth (C := C) G ?_
  refine Pe.ev (Pe.l E (by rfl) mc (by rfl)) ⟨c, 218, _, 203, rfl, X.copy.obj, m_missing P, by rfl, ?_⟩
  refine As.nil (CodeTo.call ?_)
  refine missing_spec G (by exact ok.le (by omega)) X.copy fun H3 g k3 _ hg => ?_
  have X3 := X.same k3
  have hL3 := X3.law.list
  refine Ev.compPR (C := C) G ok.hd [("at", .local), ("rows", .cell)] E (cl := [("rows", C.L + 1)]) (Nat.le_refl _) (by
    obtain ⟨⟩ := env
    have := E.cells
    dsimp only at this
    subst this
    rfl) (by decide) rfl (by decide) (by rfl) (by rfl) ?_
  refine Ev.call (C := C) G ?_
  refine Pe.ev (nm_range E G (by rfl)) ⟨.inr (.inl ⟨_, rfl⟩), ?_⟩
  refine As.cons ?_
  refine Pe.ev (call_len G E (by rfl) (Pe.ce E (by rfl) (by rfl) X3.hr (by rfl)) hL3 (by omega)) ?_
  refine As.nil (CallTo.range1 fun r hr => ?_)
  have k4 := same_new (o := .range 0 (0 + (refs ls).length)) hr
  have X4 := X3.same k4
  refine ⟨r, 0, R.length, missF R, rfl, by dsimp only; rw [upd_self, hlen], by omega, by omega, by omega, fun b' L' F i m' env' Gb' Ec hi => ?_, fun l hl => ?_⟩
  · have hri : R[i]? = some R[i] := by simp [hi]
    unfold missF
    rw [hri]
    dsimp only
    generalize R[i] = ri at hri
    obtain ⟨a, ha, fv, hf, ho⟩ := X4.law.rows.both' hri
    have hk0 := X.law.good.kn i ri hri
    have hp0 := X.law.good.pos i ri hri
    have e : (!(decide (ri.known > 0) && !ri.fl.isNone)) = ((ri.known == 0) || (fv == .none)) := by
      rw [hf.isNone]
      by_cases q : ri.known = 0
      · rw [q]; simp
      · have : ri.known > 0 := by omega
        simp [this, q]
    rw [e]
    have hrow : Pe { C with b := b', L := L', F := F } env' (.Subscript (.Name "rows" ⟨290, 67, 290, 71⟩) (.Name "at" ⟨290, 72, 290, 74⟩) ⟨290, 67, 290, 75⟩) ⟨putM m' "at" (.int (0 + i) 0), upd H3 r (.range 0 (0 + (refs ls).length))⟩ (.ref a) := law_row (Pe.ce Ec (by rfl) (by rfl) X4.hr (by rfl)) (Pe.lm Ec (by rfl) (by rfl)) X4.law.list (by omega) ha (by omega)
    have hrow2 : Pe { C with b := b', L := L', F := F } env' (.Subscript (.Name "rows" ⟨290, 87, 290, 91⟩) (.Name "at" ⟨290, 92, 290, 94⟩) ⟨290, 87, 290, 95⟩) ⟨putM m' "at" (.int (0 + i) 0), upd H3 r (.range 0 (0 + (refs ls).length))⟩ (.ref a) := law_row (Pe.ce Ec (by rfl) (by rfl) X4.hr (by rfl)) (Pe.lm Ec (by rfl) (by rfl)) X4.law.list (by omega) ha (by omega)
    refine PureElt.ifs (x := (ri.known == 0) || (fv == .none)) ?_ fun _ => ?_
    · refine Pt.or2 (Pt.cmp (Pe.item hrow Pe.int ho (by decide) (by decide) (by rfl)) Pe.int CmpTo.eq (by rfl)) fun _ => ?_
      exact Pt.cmp (Pe.item hrow2 Pe.int ho (by decide) (by decide) (by rfl)) Pe.none_ CmpTo.isNone (by rfl)
    · exact Pe.to (Pe.binop (Pe.lm Ec (by rfl) (by rfl)) Pe.int OpTo.add) (by congr 1; omega)
  · have k5 := same_new (o := .list ((List.range R.length).filterMap (missF R))) hl
    refine ⟨false, CmpH.neInts ok (k5.at (k4.at hg)) (upd_self _ _ _) rfl fun i v w e1 e2 => ?_, ?_⟩
    · rw [e1] at e2
      cases e2
      obtain ⟨j, _, hj⟩ := List.mem_filterMap.mp (List.mem_of_getElem? e1)
      unfold missF at hj
      split at hj
      · split at hj
        · cases hj; exact ⟨_, rfl, rfl⟩
        · cases hj
      · cases hj
    · rw [if_neg (by decide)]
      exact Exs.nil (k _ ((k3.trans k4).trans k5))
/-- the fourth -/
theorem turn_uids (G : Gr P C.b) (ok : OkA C.A 4) (E : EnvIs env C.L n_law (lawCells C.L)) (X : Turn H C.L c LR CR d hs ls R top c1 c2) (mc : m "copy" = some (.ref c)) (mn : m "counts" = some (.ref CR)) {st : Stmt} (hst : st = lbS 3)
    (k : ∀ H', Same H H' → Ψ .next ⟨m, H'⟩) : Ex C env st ⟨m, H⟩ Ψ := by
  subst hst
  have hz := X.copy.small
  have hlen := X.law.len
  refine Ex.if_ ?_
  refine It.orL ?_
  refine It.cmpH (by rfl) ?_
  refine Ev.meth (C := C) G ?_
  refine Pe.ev (Pe.l E (by rfl) mc (by rfl)) ⟨c, 218, _, 191, rfl, X.copy.obj, m_uids P, by rfl, ?_⟩
  refine As.nil (CodeTo.call ?_)
  refine uids_spec G (by exact ok.le (by omega)) X.copy fun g hg => ?_
  have k3 := same_new (o := .list (R.map fun r => .int r.known 0)) hg
  have X3 := X.same k3
  refine Ev.compPL (C := C) G ok.hd [("row", .local)] E (cl := []) (Nat.zero_le _) rfl (by decide) rfl (by decide) (by rfl) (by rfl) ?_
  refine Pe.ev (Pe.ce E (by rfl) (by rfl) X3.hr (by rfl)) ?_
  refine ⟨LR, refs ls, fun j => (R[j]?).map fun r => .int r.known 0, rfl, X3.law.list, len_k (by omega), fun b' L' F j v m' env' Gb' Ec hv => ?_, fun n hn => ?_⟩
  · obtain ⟨l, hl, rfl⟩ := refs_get hv
    obtain ⟨r, hr, fv, hf, ho⟩ := X3.law.rows.both hl
    dsimp only
    rw [hr]
    exact PureElt.one (Pe.item (Pe.lm Ec (by rfl) (by rfl)) Pe.int ho (by decide) (by decide) (by rfl))
  rw [hlen, filterMap_map] at *
  have k4 := same_new (o := .list (R.map fun r => .int r.known 0)) hn
  have X4 := X3.same k4
  have kk := k3.trans k4
  refine ⟨false, CmpH.neInts ok (k4.at (upd_self _ _ _)) (upd_self _ _ _) rfl fun i v w e1 e2 => ?_, ?_⟩
  · rw [e1] at e2
    cases e2
    obtain ⟨r, _, rfl⟩ := List.mem_map.mp (List.mem_of_getElem? e1)
    exact ⟨_, rfl, rfl⟩
  rw [if_neg (by decide)]
  refine Pt.it (x := false) (Pt.to (Pt.cmp (Pe.attr (C := C) G (Pe.l E (by rfl) mc (by rfl)) X4.copy.obj (get_218_top P) (by rfl) (by rfl)) (Pe.item (Pe.l E (by rfl) mn (by rfl)) Pe.int X4.law.cnt (by decide) (by decide) (by rfl)) CmpTo.ne (by rfl)) (by rw [X.dt]; simp)) ?_
  rw [if_neg (by decide)]
  refine Pt.it (x := false) (Pt.to (Pt.cmp (Pe.attr (C := C) G (Pe.l E (by rfl) mc (by rfl)) X4.copy.obj (get_218_is_readonly P) (by rfl) (by rfl)) (Pe.item (Pe.l E (by rfl) mn (by rfl)) Pe.int X4.law.cnt (by decide) (by decide) (by rfl)) CmpTo.neb (by rfl)) (by rw [X.dr]; simp)) ?_
  rw [if_neg (by decide)]
  refine allOr_nil ?_
  rw [if_neg (by decide)]
  exact Exs.nil (k _ kk)
end
end Mine
end
section
set_option maxRecDepth 100000
set_option Elab.async false
set_option linter.unusedVariables false
set_option maxHeartbeats 400000
namespace Mine
open PySem PySem.W PySem.Calls PyProof.Rows
section
variable {P : Params} {C : Cx} {env : Env} {m : Str → Option Value} {H : AH} {c LR CR : Addr} {d : CopyD} {hs ls : List Addr} {R : List Rw} {top c1 cell : Int} {c2 : Bool} {Ψ : Flow → St → Prop}
theorem law_turn (G : Gr P C.b) (ok : OkA C.A 8) (E : EnvIs env C.L n_law (lawCells C.L)) (X : Turn H C.L c LR CR d hs ls R top c1 c2) (zR : R.length ≤ 900) (zt : top ≤ 40000) (mc : m "copy" = some (.ref c)) (mn : m "counts" = some (.ref CR)) (me : m "cell" = some (.int cell 0)) {ss : List Stmt} (hss : ss = lb)
    (k : ∀ H' d' hs' ls' R' top' c1' c2', Keep (TurnS c LR CR d hs ls) H H' → Turn H' C.L c LR CR d' hs' ls' R' top' c1' c2' → R'.length ≤ R.length + 3 → top' ≤ top + 6 → Ψ .next ⟨m, H'⟩) : Exs C env ss ⟨m, H⟩ Ψ := by
  subst hss
  refine Exs.cons ?_
  refine Ex.expr ?_ E.quiet rfl
  refine Ev.meth (C := C) G ?_
  refine Pe.ev (Pe.l E (by rfl) mc (by rfl)) ⟨c, 218, _, 215, rfl, X.copy.obj, m_take P, by rfl, ?_⟩
  refine As.cons ?_
  refine Ev.call (C := C) G ?_
  refine Pe.ev (Pe.g E G (by rfl) (g_law_answer P) (by rfl)) ⟨k_law_answer P, ?_⟩
  refine As.cons (Pe.ev (Pe.ce E (by rfl) (by rfl) X.hr (by rfl)) ?_)
  refine As.cons (Pe.ev (Pe.l E (by rfl) mn (by rfl)) ?_)
  refine As.cons (Pe.ev (Pe.l E (by rfl) me (by rfl)) ?_)
  refine As.nil (CodeTo.call ?_)
  refine law_answer_spec G (ok.le (by omega)) X.law zR zt ?_
  intro H1 A ls1 R1 t1 a1 b1 k1 L1 z1 zt1 N
  have C1 : CopyIs H1 c d hs R := X.copy.afterLaw X.law X.ne k1
  refine As.nil (CodeTo.call ?_)
  refine take_ans (t0 := top) (top := t1) (R' := R1) G (ok.le (by omega)) C1 X.inj X.law.good (by omega) (by omega) (by rw [X.dt, X.dr]; exact N) fun H2 d2 hs2 k2 q1 q2 q3 I2 C2 => ?_
  have hrc := X.notCell X.hr
  have L2 : LawIs H2 LR CR ls1 R1 t1 a1 b1 := L1.afterTake C1 X.ne k2
  have hrc1 : H1 (C.L + 1) = some (.cell (.ref LR)) := k1.get X.hr fun z => hrc (.inl z)
  have T2 : Turn H2 C.L c LR CR d2 hs2 ls1 R1 t1 a1 b1 := ⟨k2.get hrc1 fun z => hrc (.inr z), L2, C2, I2, q2, q3, fun z => by
    rcases q1 with q1 | q1
    · have := L1.list
      rw [z] at this
      dsimp only at q1
      rw [q1] at this; cases this
    · exact X.ne (z.trans q1)⟩
  have kk : Keep (TurnS c LR CR d hs ls) H H2 := (k1.weak fun x z => .inl z).trans (k2.weak fun x z => .inr z)
  refine Exs.cons ?_
  refine turn_told G (ok.le (by omega)) E T2 mc rfl fun H3 k3 => ?_
  have T3 := T2.same k3
  refine Exs.cons ?_
  refine turn_missing G (ok.le (by omega)) E T3 mc rfl fun H4 k4 => ?_
  have T4 := T3.same k4
  refine Exs.cons ?_
  refine turn_uids G (ok.le (by omega)) E T4 mc mn rfl fun H5 k5 => ?_
  exact Exs.nil (k H5 d2 hs2 ls1 R1 t1 a1 b1 (kk.trans (Same.weak ((k3.trans k4).trans k5))) (T4.same k5) z1 zt1)
end
/-! The script stands in the ground -/
section
variable {C : Cx} {env : Env} {σ : St}
theorem base_list {b h : Heap} {L sa : Addr} {F : AH} {its : List Value} (S : Sat b L F h σ) (hb : b.IsList sa its.toArray) : h.IsList sa its.toArray := by
  obtain ⟨o, h1, h2⟩ := hb
  exact ⟨o, S.keep h1, h2⟩
theorem CmpH.neNilB {k : Nat} (ok : OkA C.A k) {a b : Addr} {its : List Value} (ha : C.b.IsList a its.toArray) (hb : σ.H b = some (.list [])) : CmpH C .NotEq (.ref a) (.ref b) σ (!its.isEmpty) := fun va vb ea eb s S => by
  rw [er_ref ea, er_ref eb]
  have t1 := base_list S ha
  obtain ⟨ws', t2, e2⟩ := list_is S hb
  have l2 : ws'.length = 0 := by rw [← List.length_map (f := er), e2]; rfl
  cases its with
  | nil =>
    have := SeqAt.RcNeAt.lists (A := C.A) (e := fun _ => true) t1 t2 (by simp at l2; simp [l2]) ok.units (fun j h1 h2 => absurd h1 (by simp))
    rw [all_true] at this
    exact EqBoolInt.of_rcne this ⟨σ, s.heap, s.toks, rfl, S, rfl, rfl⟩
  | cons v r =>
    have := SeqAt.RcNeAt.lists_lengths (A := C.A) t1 t2 (by simp at l2; simp [l2]) ok.units
    exact EqBoolInt.of_rcne this ⟨σ, s.heap, s.toks, rfl, S, rfl, rfl⟩
theorem Ev.uptoB {Φ : Value → St → Prop} {value up : Expr} {pos sp : Pos} {l : Addr} {its : List Value} {k : Int} {t : Tok} {n : Nat} (hv : Pe C env value σ (.ref l)) (hl : C.b.IsList l its.toArray) (hu : Pe C env up σ (.int k t)) (hk : k = n) (hz : its.length ≤ 100000) (h : ∀ a, σ.H a = none → Φ (.ref a) ⟨σ.m, upd σ.H a (.list ((its.map er).take n))⟩)
    (hs : ∀ o i, ∃ ops, subscripted (.Slice none (some up) none sp) false o i = operate ops (getItem o i) := by intro _ _; exact ⟨_, rfl⟩) : Ev C env (.Subscript value (.Slice none (some up) none sp) pos) σ Φ := fun s S => by
  refine Subscript_ (Tr.run hv S fun ov σ₁ h₁ k₁ S₁ ⟨q, q1⟩ => wpAny_Slice ?_)
  subst q1
  refine Tr.run (Pp.none (C := C) (env := env) (σ := σ₁)) S₁ fun vl σ₂ h₂ k₂ S₂ ⟨e1, q2⟩ => ?_
  subst q2
  refine Tr.run (Pp.some hu) S₂ fun vu σ₃ h₃ k₃ S₃ ⟨e2, q3⟩ => ?_
  subst q3
  refine Tr.run (Pp.none (C := C) (env := env) (σ := σ₃)) S₃ fun vt σ₄ h₄ k₄ S₄ ⟨e3, q4⟩ => ?_
  subst q4
  rw [er_ref q]
  have hL := base_list S₄ hl
  obtain ⟨ops, hs⟩ := hs (.ref l) (.ref h₄.objs.size)
  have hL' : (h₄.push { cls := .type "slice", data := .fields #[vl, vu, vt] }).IsList l its.toArray := hL.push _
  refine tail_any hL'.typeIs slot_list_getitem.lookup (wpAny_getItem_list_slice hL' (Heap.IsSliceOf.new ..) (part_is e1) (part_is e2) (part_is e3) (by simp) ?_ (by rw [List.size_toArray]; exact len_k hz)) hs
  have S₅ := S₄.push_ (ob := { cls := .type "slice", data := .fields #[vl, vu, vt] })
  have em' : ((slicePick its.toArray none (some k) none).toList).map er = (its.map er).take n := by
    rw [hk, slicePick_upto', List.map_take]
  obtain ⟨S₆, hn⟩ := S₅.push (ob := { cls := .type "list", data := .seq (slicePick its.toArray none (some k) none) }) (o := .list ((its.map er).take n)) rfl (fun _ _ => by simp)
    fun dd => ⟨(slicePick its.toArray none (some k) none).toList, 0, by simpa using Heap.get?_push_size (h₄.push { cls := .type "slice", data := .fields #[vl, vu, vt] }) (o := { cls := .type "list", data := .seq (slicePick its.toArray none (some k) none) }) rfl, em'⟩
  exact ⟨_, _, _, rfl, S₆, h _ hn⟩
theorem swapped_none2 {x y : Str} {px py tp tv p1 p2 : Pos} {kk kv : Nat} {a1 a2 : List Expr} (hx : env.kindOf x = some .cell) (hy : env.kindOf y = some .local) (hb : env.blockKind = .function) :
    swappedStores [.Tuple [.Name x px, .Name y py] kk tp] (.Tuple [.List a1 p1, .List a2 p2] kv tv) env = pure none := by
  have e1 : (Expr.Name x px).pos = px := rfl
  unfold swappedStores
  by_cases hl : py.line = px.line <;> simp [hx, hy, hb, e1, hl]
end
end Mine
end
section
set_option maxRecDepth 100000
set_option Elab.async false
set_option linter.unusedVariables false
set_option maxHeartbeats 400000
namespace Mine
open PySem PySem.W PySem.Calls PyProof.Rows
section
variable {P : Params} {C : Cx} {env : Env} {m : Str → Option Value} {H : AH} {sa : Addr}
/-- what stands between two turns -/
def LawI (C : Cx) (c CR g : Addr) (ns : List Int) (i : Nat) (σ : St) : Prop := ∃ LR d hs ls R top c1 c2, σ.m "copy" = some (.ref c) ∧ σ.m "counts" = some (.ref CR) ∧ σ.H g = some (.list (intVals ns)) ∧ Turn σ.H C.L c LR CR d hs ls R top c1 c2 ∧ R.length ≤ 3 * i ∧ top ≤ 6 * i
theorem law_body (G : Gr P C.b) (ok : OkA C.A 9) (E : EnvIs env C.L n_law (lawCells C.L)) {its : List Value} {ks : List Int} (hm : m "script" = some (.ref sa)) (hs : C.b.IsList sa its.toArray) (hi : its.map er = intVals ks) (hz : ks.length ≤ 63) (hc : H (C.L + 1) = some .hole) {ss : List Stmt} (hss : ss = bodyF 34) :
    Exs C env ss ⟨m, H⟩ fun f _ => f = .ret (.bool true) := by
  subst hss
  have hil : its.length = ks.length := by rw [← intVals_len, ← hi, List.length_map]
  refine Exs.cons ?_
  refine Ex.assign rfl E.kind (E.kinds _ _ (by rfl)) E.loc ?_
  refine Ev.call (C := C) G ?_
  refine Pe.ev (Pe.g E G (by rfl) (g_Copy P) (by rfl)) ⟨k_Copy P, ?_⟩
  refine As.nil (CodeTo.call ?_)
  refine copy_new G (ok.le (by omega)) ?_
  intro c r dk n H1 hc0 k1 hco hr hd hn fr fd fn
  dsimp only at hc0 k1 fr
  have hcell1 := k1.at hc
  refine Exs.cons ?_
  refine Ex.assign2g rfl (swapped_none2 (E.kinds _ _ (by rfl)) (E.kinds _ _ (by rfl)) E.block) ok.hd ?_
  refine Ev.tuple ?_
  refine As.cons ?_
  refine Ev.list ?_
  refine As.nil ⟨len_small (by rfl), fun LR hLR => ?_⟩
  refine As.cons ?_
  refine Ev.list ?_
  refine As.cons (Pe.ev Pe.int ?_)
  refine As.cons (Pe.ev Pe.int ?_)
  refine As.cons (Pe.ev Pe.bool ?_)
  refine As.nil ⟨len_small (by rfl), fun CR hCR => ?_⟩
  refine As.nil ⟨len_small (by rfl), fun t ht => ?_⟩
  dsimp only at hLR hCR ht
  have k2 := same_new (o := .list []) hLR
  have k3 := same_new (o := .list [.int 0 0, .int 0 0, .bool false]) hCR
  have k4 := same_new (o := .tup [.ref LR, .ref CR]) ht
  refine ⟨t, _, _, rfl, upd_self _ _ _, fun va vb ea eb => ?_⟩
  refine tr_storeC E.kind (E.kinds _ _ (by rfl)) (ca := C.L + 1) (by rw [E.cells]; rfl) (k4.at (k3.at (k2.at hcell1))) (.inl rfl) ?_
  refine tr_store E.kind (E.kinds _ _ (by rfl)) E.loc ?_
  rw [ea, eb]
  dsimp only
  have k234 := (k2.trans k3).trans k4
  have hLR4 : upd (upd (upd H1 LR (.list [])) CR (.list [.int 0 0, .int 0 0, .bool false])) t (.tup [.ref LR, .ref CR]) LR = some (.list []) := k4.at (k3.at (upd_self _ _ _))
  have hCR4 : upd (upd (upd H1 LR (.list [])) CR (.list [.int 0 0, .int 0 0, .bool false])) t (.tup [.ref LR, .ref CR]) CR = some (.list [.int 0 0, .int 0 0, .bool false]) := k4.at (upd_self _ _ _)
  have hco4 := k234.at hco
  have hr4 := k234.at hr
  have hd4 := k234.at hd
  have hce4 := k234.at hcell1
  generalize upd (upd (upd H1 LR (.list [])) CR (.list [.int 0 0, .int 0 0, .bool false])) t (.tup [.ref LR, .ref CR]) = H4 at hLR4 hCR4 hco4 hr4 hd4 hce4
  have hne : LR ≠ r := fun z => by rw [z, hr] at hLR; cases hLR
  have nc : ∀ {a : Addr} {o : AO}, H4 a = some o → o ≠ .hole → upd H4 (C.L + 1) (.cell (.ref LR)) a = some o := fun {a o} e h => by
    rw [upd_ne (fun z => by rw [z, hce4] at e; exact h (Option.some.inj e).symm)]; exact e
  have T5 : Turn (upd H4 (C.L + 1) (.cell (.ref LR))) C.L c LR CR ⟨0, r, dk, false, n⟩ [] [] [] 0 0 false := by
    refine ⟨upd_self _ _ _, ⟨nc hLR4 (by simp), nc hCR4 (by simp), ⟨rfl, fun i h r e => by simp at e⟩, fun i j a e => by simp at e, ⟨fun i j r s _ e => by simp at e, fun i r e => by simp at e, fun i r e => by simp at e⟩, Int.le_refl _⟩, ⟨nc hco4 (by simp [copyO]), nc hr4 (by simp), nc hd4 (by simp), ⟨rfl, fun i h r e => by simp at e⟩, by simp⟩, fun i j a e => by simp at e, rfl, rfl, hne⟩
  generalize upd H4 (C.L + 1) (.cell (.ref LR)) = H5 at T5
  generalize hm5 : putM (putM m "copy" (.ref c)) "counts" (.ref CR) = m5
  have mc5 : m5 "copy" = some (.ref c) := by rw [← hm5]; rfl
  have mn5 : m5 "counts" = some (.ref CR) := by rw [← hm5]; rfl
  have ms5 : m5 "script" = some (.ref sa) := by rw [← hm5]; exact hm
  -- the turns
  refine Exs.cons ?_
  refine Ex.forL ok.hd E (by rfl) ?_
  suffices hloop : ∀ (H6 : AH) (g : Addr) (ns : List Int), Same H5 H6 → H6 g = some (.list (intVals ns)) → ns ≠ [] → ns.length ≤ 12 → ∃ a vals, Value.ref g = .ref a ∧ (St.mk m5 H6).H a = some (.list vals) ∧ ∃ I : Nat → St → Prop, I 0 ⟨m5, H6⟩ ∧ (∀ i σ', I i σ' → σ'.H a = some (.list vals)) ∧
      (∀ F i v σ', vals[i]? = some v → I i σ' → Exs { C with F := F } env lb ⟨putM σ'.m "cell" v, σ'.H⟩ fun f σ'' => match f with | .next => I (i + 1) σ'' | .cont => I (i + 1) σ'' | .brk => Exs C env ((bodyF 34).drop 3) σ'' (fun f _ => f = .ret (.bool true)) | .ret v => (Flow.ret v) = .ret (.bool true)) ∧
      ∀ σ', I vals.length σ' → Exs C env ((bodyF 34).drop 3) σ' (fun f _ => f = .ret (.bool true)) by
    refine Ev.ifexp ?_
    refine It.cmpH (by rfl) ?_
    refine Pe.ev (Pe.l E (by rfl) ms5 (by rfl)) ?_
    refine Ev.list ?_
    refine As.nil ⟨len_small (by rfl), fun e he => ?_⟩
    have ke := same_new (o := .list []) he
    refine ⟨_, CmpH.neNilB ok hs (upd_self _ _ _), ?_⟩
    cases hks : ks with
    | nil =>
      have : its = [] := by rw [hks] at hil; exact List.length_eq_zero_iff.mp hil
      rw [this, if_neg (by decide)]
      refine Ev.list ?_
      refine As.cons (Pe.ev Pe.int ?_)
      refine As.cons (Pe.ev Pe.int ?_)
      refine As.cons (Pe.ev Pe.int ?_)
      refine As.cons (Pe.ev Pe.int ?_)
      refine As.nil ⟨len_small (by rfl), fun g hg => ?_⟩
      have kg := same_new (o := .list [.int 16 0, .int 1 0, .int 25 0, .int 4 0]) hg
      exact hloop _ g [16, 1, 25, 4] (ke.trans kg) (upd_self _ _ _) (by simp) (by simp)
    | cons k0 kr =>
      have hne0 : its.isEmpty = false := by
        cases its with
        | nil => rw [hks] at hil; simp at hil
        | cons => rfl
      rw [hne0, if_pos (by decide)]
      refine Ev.uptoB (n := 12) (Pe.l E (by rfl) ms5 (by rfl)) hs Pe.int rfl (by omega) fun g hg => ?_
      have kg := same_new (o := .list ((its.map er).take 12)) hg
      refine hloop _ g (ks.take 12) (ke.trans kg) ?_ (by rw [hks]; simp) (by rw [List.length_take]; omega)
      show upd _ g _ g = _
      rw [upd_self, hi]
      unfold intVals
      rw [List.map_take]
  intro H6 g ns k6 hg hns hnl
  have T6 := T5.same k6
  refine ⟨g, intVals ns, rfl, hg, LawI C c CR g ns, ⟨LR, _, _, _, _, _, _, _, mc5, mn5, hg, T6, by simp, by simp⟩, fun i σ' ⟨_, _, _, _, _, _, _, _, _, _, h, _⟩ => h, ?_, ?_⟩
  · rintro F i v ⟨m', H'⟩ hv ⟨LR', d', hs', ls', R', top', c1', c2', a1, a2, a3, T, b1, b2⟩
    dsimp only at a1 a2 a3 T
    have hin : i < ns.length := by
      have := (List.getElem?_eq_some_iff.mp hv).1
      rwa [intVals_len] at this
    unfold intVals at hv
    rw [List.getElem?_map] at hv
    obtain ⟨u, hu, rfl⟩ := Option.map_eq_some_iff.mp hv
    have p1 : putM m' "cell" (.int u 0) "copy" = some (.ref c) := pq_ne (by rfl) a1
    have p2 : putM m' "cell" (.int u 0) "counts" = some (.ref CR) := pq_ne (by rfl) a2
    have p3 : putM m' "cell" (.int u 0) "cell" = some (.int u 0) := putM_self
    refine law_turn (C := { C with F := F }) (d := d') (hs := hs') (ls := ls') (R := R') (top := top') (c1 := c1') (c2 := c2') (LR := LR') G (ok.le (by omega)) E T (by omega) (by omega) (m := putM m' "cell" (.int u 0)) p1 p2 p3 rfl ?_
    intro H7 d7 hs7 ls7 R7 top7 c17 c27 k7 T7 z7 t7
    exact ⟨LR', d7, hs7, ls7, R7, top7, c17, c27, p1, p2, k7.get a3 (T.ints hns a3), T7, by omega, by omega⟩
  · rintro ⟨m', H'⟩ ⟨LR', d', hs', ls', R', top', c1', c2', a1, a2, a3, T, b1, b2⟩
    dsimp only at a1 a2 a3 T
    refine Exs.cons ?_
    refine Ex.expr ?_ E.quiet rfl
    refine Ev.meth (C := C) G ?_
    refine Pe.ev (Pe.l E (by rfl) a1 (by rfl)) ⟨c, 218, _, 215, rfl, T.copy.obj, m_take P, by rfl, ?_⟩
    refine As.cons ?_
    refine Ev.tuple ?_
    refine As.cons (Pe.ev Pe.str ?_)
    refine As.cons ?_
    refine Ev.list ?_
    refine As.cons (Pe.ev Pe.str ?_)
    refine As.cons (Pe.ev Pe.str ?_)
    refine As.nil ⟨len_small (by rfl), fun l hl => ?_⟩
    refine As.nil ⟨len_small (by rfl), fun A hA => ?_⟩
    dsimp only at hl hA
    have kl := same_new (o := .list [.str "\\Seen" 0, .str "k" 0]) hl
    have kA := same_new (o := .tup [.str "flags" 0, .ref l]) hA
    have T8 := (T.same kl).same kA
    refine As.nil (CodeTo.call ?_)
    refine take_a_flags (ss := ["\\Seen", "k"]) G (ok.le (by omega)) T8.copy (kA.at (upd_self _ _ _)) (by simp) (upd_self _ _ _) fun H9 q hq Y => ?_
    refine Exs.cons ?_
    refine Ex.ret ?_
    refine Ev.cmpH (by rfl) ?_
    refine Pe.ev (Pe.attr (C := C) G (Pe.l E (by rfl) a1 (by rfl)) Y.obj (get_218_flag_names P) (by rfl) (by rfl)) ?_
    refine Ev.tuple ?_
    refine As.cons (Pe.ev Pe.str ?_)
    refine As.cons (Pe.ev Pe.str ?_)
    refine As.nil ⟨len_small (by rfl), fun w hw => ?_⟩
    have kw := same_new (o := .tup [.str "\\Seen" 0, .str "k" 0]) hw
    refine ⟨true, CmpH.eqTup (n := 0) ok (by decide) (kw.at hq) (upd_self _ _ _) rfl fun i v x e1 e2 => ?_, rfl⟩
    match i, e1, e2 with
    | 0, e1, e2 => simp [strVals] at e1 e2; subst e1; subst e2; exact .str 0 _ 0 0
    | 1, e1, e2 => simp [strVals] at e1 e2; subst e1; subst e2; exact .str 0 _ 0 0
    | n + 2, e1, e2 => simp [strVals] at e1
end
end Mine
end
section
set_option maxRecDepth 100000
set_option Elab.async false
set_option linter.unusedVariables false
set_option maxHeartbeats 400000
namespace Mine
open PySem PySem.W PySem.Calls PyProof.Rows
theorem ints_er {vs : List Value} {ks : List Int} (h : IntsAre vs ks) : vs.map er = intVals ks := by
  induction h with
  | nil => rfl
  | cons n t _ ih => rw [List.map_cons, ih]; rfl
theorem gr_of {P : Params} {b : Heap} {mg mb : Str → Option Value} {mean : ExcName → Option Value} (X : (heapK P).In b) (T : Top viewP (looseW viewP looseP) mean mg mb b) : Gr P b := by
  refine ⟨?_, mg, mb, topRead_of T⟩
  unfold KK
  exact X
theorem single_some {a x : Addr} {o ob : AO} (h : single x o a = some ob) : a = x ∧ o = ob := by
  unfold single at h
  split at h
  · rename_i q; exact ⟨q, Option.some.inj h⟩
  · cases h
theorem law_end {P : Params} {prog : Program} {w : World} {A : Around} {b : Heap} {L sa : Addr} {env : Env} {s : Shared} {m : Str → Option Value} {its : List Value} {ks : List Int} {o : Obj} (G : Gr P b) (ok : OkA A 9) (E : EnvIs env L n_law (lawCells L)) (F : Fr b L s.heap m) (hm : m "script" = some (.ref sa)) (hs : b.IsList sa its.toArray) (hi : IntsAre its ks) (hz : ks.length ≤ 63)
    (ho : s.heap.get? (L + 1) = some o) (hod : o.data = .cell none) (hb : b.get? (L + 1) = none) {ss : List Stmt} (hss : ss = bodyF 34) :
    wpAny (model prog w) A (execs ss env) (fun f s' => ∃ h tk m', f = .ret (.bool true) ∧ s' = { s with heap := h, toks := tk } ∧ Fr b L h m') (fun _ _ => False) s := by
  have hL : L + 1 ≠ L := Nat.ne_of_gt (Nat.lt_succ_self L)
  have S : Sat b L (fun _ => none) s.heap ⟨fun x => (m x).map er, single (L + 1) .hole⟩ := by
    refine ⟨m, fun _ => 0, F, fun x => rfl, ⟨fun a ob e => ?_, fun a Cl fs e => ?_, fun a a' Cl fs Cl' fs' e _ _ => ?_⟩, fun a => .inr rfl⟩
    · rcases orF_some e with e | ⟨_, e⟩
      · obtain ⟨rfl, rfl⟩ := single_some e
        exact ⟨hb, hL, o, ho, hod⟩
      · cases e
    · rcases orF_some e with e | ⟨_, e⟩
      · exact nomatch (single_some e).2
      · cases e
    · rcases orF_some e with e | ⟨_, e⟩
      · exact nomatch (single_some e).2
      · cases e
  have B := law_body (P := P) (C := ⟨prog, w, A, b, L, fun _ => none⟩) (env := env) (m := fun x => (m x).map er) (H := single (L + 1) .hole) (sa := sa) G ok E (its := its) (ks := ks) (by rw [hm]; rfl) hs (ints_er hi) hz single_at hss
  refine wpAny_mono (B s S) (fun f s' => ?_) fun _ _ x => x
  rintro ⟨σ', h, tk, e, S', q⟩
  obtain ⟨m', dd, F', _⟩ := S'.ex
  refine ⟨h, tk, m', ?_, e, F'⟩
  cases f with
  | ret v => rw [er_bool (Flow.ret.inj q)]
  | _ => cases q
end Mine
end
section
set_option Elab.async false
set_option maxRecDepth 100000
set_option maxHeartbeats 4000000
namespace Mine
open PySem PySem.W PySem.Calls PyProof.Rows
theorem env_law {fa L : Addr} {cd : Value} {name : Str} {scope : Scope} (h : (n_law.all fun x => scope.names.lookup x.1 == some x.2) = true) (hk : scope.kind = .function) (hc : cellsFrom (L + 1) scope.names [] = lawCells L) : EnvIs (envOfC name scope L fa cd) L n_law (lawCells L) :=
  ⟨hk, rfl, rfl, rfl, hc, fun x k h' => by
    show scope.names.lookup x = some k
    simpa using List.all_eq_true.mp h _ (mem_of_lookup h')⟩
end Mine
open PySem PySem.W PySem.Calls PyProof.Rows
theorem PySem.Challenge.cw_nz0300_01_holds : PySem.Challenge.rw_nz0300_01.Holds := by
  refine Mine.hd ?_
  intro w s₀ s₁ mg mb G Y fa o pm cd doc dV kV ho hd hcd hD hmg hg args vals as hpre hlay hrd hwl hlo
  have KX := kIn_of Y
  refine Ground.open G ?_
  intro T B D TE TW
  clear hmg D
  have GG := Mine.gr_of KX T
  wrow_args hpre hlay hrd hwl hlo
  rename_i ks _ _ _ _ _ _ _ sa ws _ hL _ _ _ hI _ hcond _
  have he := Dflts.none hD rfl
  subst he
  have he := Dflts.noKw hD
  subst he
  refine enter_call ?_
  w_top on
  refine codeAny_mono ?_ (fun _ _ g => GoodW.toG g)
  refine call_cellsN (by decide) ho (fd_plain hd) (Top.nolimit T) hcd rfl (kinds_of (by kinds_ok)) (by decide) fun h₁ tk₁ cells F N0 X0 => ?_
  clear hd hcd hD
  obtain ⟨oc, rfl, hoc⟩ := X0.one
  obtain ⟨n1, n2, n3⟩ := N0 _ (.head _)
  refine wpAny_mono (Mine.law_end (P := w.params) GG (Mine.OkA.deeper (n := 9) ⟨rfl, by decide, by decide⟩ _) (Mine.env_law (by kernel_rfl) rfl rfl) F rfl hL hI (by omega) n1 hoc n3 (by kernel_rfl)) ?_ fun _ _ x => x.elim
  rintro f s' ⟨h, tk, m', rfl, rfl, F'⟩
  exact goodW_bool F' hg (raisesW_false (by wrow_none_raised)) (by wrow_post)
end
