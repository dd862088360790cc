import PyProof.Rows.All
import Wide.All
import OpenK.AllK
import Wide.FinOn
import Open.Line
import Open.Tree
import OpenK.KCell
import OpenK.KMeth
import Open.FastRun
import Open.FastT9
import KE.BytesMake
import KE.KPar
import KE.KDictSum
import KE.KSort
import KE.KDictOf
import PyProof.AttrMissHeap
import PyProof.EqKinds
import PyProof.NeKinds
import KE.KEqDict
import PyProof.Rows.SetFrom
import PySem.Challenge.RW_nn0124_01
set_option Elab.async false
namespace Mine
section -- HS
open PySem PySem.W PyProof.Rows
set_option maxRecDepth 100000
set_option linter.unusedVariables false
noncomputable section
-- the top's run: the states at six places, object by object
noncomputable abbrev P0 : Program := PySem.Challenge.pw_nn0124_01
noncomputable def stAt (i : Nat) : Stmt := P0.main.body.getD i (.Pass ⟨0, 0, 0, 0⟩)
noncomputable def inCls (s : Stmt) (j : Nat) : Stmt := match s with | .ClassDef _ _ _ b _ _ _ _ _ _ _ => b.getD j (.Pass ⟨0, 0, 0, 0⟩) | _ => .Pass ⟨0, 0, 0, 0⟩
noncomputable def parOf (s : Stmt) : Arguments := match s with | .FunctionDef _ a _ _ _ _ _ _ _ _ => a | _ => ⟨[], [], none, [], [], none, []⟩
noncomputable def bodOf (s : Stmt) : List Stmt := match s with | .FunctionDef _ _ b _ _ _ _ _ _ _ => b | _ => []
noncomputable def scoOf (s : Stmt) : Scope := match s with | .FunctionDef _ _ _ _ _ _ s _ _ _ => s | _ => P0.main.scope
noncomputable def o0 (P : Params) : Obj := { cls := Value.type "dict", data := Data.dict #[{ hash := PyData.keyHash P (Str.ofString "__name__"), key := Value.str (Str.ofString "__name__") 1, val := Value.str (Str.ofString "builtins") 160 }, { hash := PyData.keyHash P (Str.ofString "__doc__"), key := Value.str (Str.ofString "__doc__") 2, val := Value.builtin "builtins.__doc__:str#opaque" }, { hash := PyData.keyHash P (Str.ofString "__package__"), key := Value.str (Str.ofString "__package__") 3, val := Value.builtin "builtins.__package__:str#opaque" }, { hash := PyData.keyHash P (Str.ofString "__loader__"), key := Value.str (Str.ofString "__loader__") 4, val := Value.builtin "builtins.__loader__:shared#opaque" }, { hash := PyData.keyHash P (Str.ofString "__spec__"), key := Value.str (Str.ofString "__spec__") 5, val := Value.builtin "builtins.__spec__#opaque" }, { hash := PyData.keyHash P (Str.ofString "__build_class__"), key := Value.str (Str.ofString "__build_class__") 6, val := Value.builtin "__build_class__" }, { hash := PyData.keyHash P (Str.ofString "__import__"), key := Value.str (Str.ofString "__import__") 7, val := Value.builtin "__import__" }, { hash := PyData.keyHash P (Str.ofString "abs"), key := Value.str (Str.ofString "abs") 8, val := Value.builtin "abs" }, { hash := PyData.keyHash P (Str.ofString "all"), key := Value.str (Str.ofString "all") 9, val := Value.builtin "all" }, { hash := PyData.keyHash P (Str.ofString "any"), key := Value.str (Str.ofString "any") 10, val := Value.builtin "any" }, { hash := PyData.keyHash P (Str.ofString "ascii"), key := Value.str (Str.ofString "ascii") 11, val := Value.builtin "ascii" }, { hash := PyData.keyHash P (Str.ofString "bin"), key := Value.str (Str.ofString "bin") 12, val := Value.builtin "bin" }, { hash := PyData.keyHash P (Str.ofString "breakpoint"), key := Value.str (Str.ofString "breakpoint") 13, val := Value.builtin "breakpoint" }, { hash := PyData.keyHash P (Str.ofString "callable"), key := Value.str (Str.ofString "callable") 14, val := Value.builtin "callable" }, { hash := PyData.keyHash P (Str.ofString "chr"), key := Value.str (Str.ofString "chr") 15, val := Value.builtin "chr" }, { hash := PyData.keyHash P (Str.ofString "compile"), key := Value.str (Str.ofString "compile") 16, val := Value.builtin "compile" }, { hash := PyData.keyHash P (Str.ofString "delattr"), key := Value.str (Str.ofString "delattr") 17, val := Value.builtin "delattr" }, { hash := PyData.keyHash P (Str.ofString "dir"), key := Value.str (Str.ofString "dir") 18, val := Value.builtin "dir" }, { hash := PyData.keyHash P (Str.ofString "divmod"), key := Value.str (Str.ofString "divmod") 19, val := Value.builtin "divmod" }, { hash := PyData.keyHash P (Str.ofString "eval"), key := Value.str (Str.ofString "eval") 20, val := Value.builtin "eval" }, { hash := PyData.keyHash P (Str.ofString "exec"), key := Value.str (Str.ofString "exec") 21, val := Value.builtin "exec" }, { hash := PyData.keyHash P (Str.ofString "format"), key := Value.str (Str.ofString "format") 22, val := Value.builtin "format" }, { hash := PyData.keyHash P (Str.ofString "getattr"), key := Value.str (Str.ofString "getattr") 23, val := Value.builtin "getattr" }, { hash := PyData.keyHash P (Str.ofString "globals"), key := Value.str (Str.ofString "globals") 24, val := Value.builtin "globals" }, { hash := PyData.keyHash P (Str.ofString "hasattr"), key := Value.str (Str.ofString "hasattr") 25, val := Value.builtin "hasattr" }, { hash := PyData.keyHash P (Str.ofString "hash"), key := Value.str (Str.ofString "hash") 26, val := Value.builtin "hash" }, { hash := PyData.keyHash P (Str.ofString "hex"), key := Value.str (Str.ofString "hex") 27, val := Value.builtin "hex" }, { hash := PyData.keyHash P (Str.ofString "id"), key := Value.str (Str.ofString "id") 28, val := Value.builtin "id" }, { hash := PyData.keyHash P (Str.ofString "input"), key := Value.str (Str.ofString "input") 29, val := Value.builtin "input" }, { hash := PyData.keyHash P (Str.ofString "isinstance"), key := Value.str (Str.ofString "isinstance") 30, val := Value.builtin "isinstance" }, { hash := PyData.keyHash P (Str.ofString "issubclass"), key := Value.str (Str.ofString "issubclass") 31, val := Value.builtin "issubclass" }, { hash := PyData.keyHash P (Str.ofString "iter"), key := Value.str (Str.ofString "iter") 32, val := Value.builtin "iter" }, { hash := PyData.keyHash P (Str.ofString "aiter"), key := Value.str (Str.ofString "aiter") 33, val := Value.builtin "aiter" }, { hash := PyData.keyHash P (Str.ofString "len"), key := Value.str (Str.ofString "len") 34, val := Value.builtin "len" }, { hash := PyData.keyHash P (Str.ofString "locals"), key := Value.str (Str.ofString "locals") 35, val := Value.builtin "locals" }, { hash := PyData.keyHash P (Str.ofString "max"), key := Value.str (Str.ofString "max") 36, val := Value.builtin "max" }, { hash := PyData.keyHash P (Str.ofString "min"), key := Value.str (Str.ofString "min") 37, val := Value.builtin "min" }, { hash := PyData.keyHash P (Str.ofString "next"), key := Value.str (Str.ofString "next") 38, val := Value.builtin "next" }, { hash := PyData.keyHash P (Str.ofString "anext"), key := Value.str (Str.ofString "anext") 39, val := Value.builtin "anext" }, { hash := PyData.keyHash P (Str.ofString "oct"), key := Value.str (Str.ofString "oct") 40, val := Value.builtin "oct" }, { hash := PyData.keyHash P (Str.ofString "ord"), key := Value.str (Str.ofString "ord") 41, val := Value.builtin "ord" }, { hash := PyData.keyHash P (Str.ofString "pow"), key := Value.str (Str.ofString "pow") 42, val := Value.builtin "pow" }, { hash := PyData.keyHash P (Str.ofString "print"), key := Value.str (Str.ofString "print") 43, val := Value.builtin "print" }, { hash := PyData.keyHash P (Str.ofString "repr"), key := Value.str (Str.ofString "repr") 44, val := Value.builtin "repr" }, { hash := PyData.keyHash P (Str.ofString "round"), key := Value.str (Str.ofString "round") 45, val := Value.builtin "round" }, { hash := PyData.keyHash P (Str.ofString "setattr"), key := Value.str (Str.ofString "setattr") 46, val := Value.builtin "setattr" }, { hash := PyData.keyHash P (Str.ofString "sorted"), key := Value.str (Str.ofString "sorted") 47, val := Value.builtin "sorted" }, { hash := PyData.keyHash P (Str.ofString "sum"), key := Value.str (Str.ofString "sum") 48, val := Value.builtin "sum" }, { hash := PyData.keyHash P (Str.ofString "vars"), key := Value.str (Str.ofString "vars") 49, val := Value.builtin "vars" }, { hash := PyData.keyHash P (Str.ofString "None"), key := Value.str (Str.ofString "None") 50, val := Value.none }, { hash := PyData.keyHash P (Str.ofString "Ellipsis"), key := Value.str (Str.ofString "Ellipsis") 51, val := Value.ellipsis }, { hash := PyData.keyHash P (Str.ofString "NotImplemented"), key := Value.str (Str.ofString "NotImplemented") 52, val := Value.notImplemented }, { hash := PyData.keyHash P (Str.ofString "False"), key := Value.str (Str.ofString "False") 53, val := Value.bool Bool.false }, { hash := PyData.keyHash P (Str.ofString "True"), key := Value.str (Str.ofString "True") 54, val := Value.bool Bool.true }, { hash := PyData.keyHash P (Str.ofString "bool"), key := Value.str (Str.ofString "bool") 55, val := Value.type "bool" }, { hash := PyData.keyHash P (Str.ofString "memoryview"), key := Value.str (Str.ofString "memoryview") 56, val := Value.type "memoryview" }, { hash := PyData.keyHash P (Str.ofString "bytearray"), key := Value.str (Str.ofString "bytearray") 57, val := Value.type "bytearray" }, { hash := PyData.keyHash P (Str.ofString "bytes"), key := Value.str (Str.ofString "bytes") 58, val := Value.type "bytes" }, { hash := PyData.keyHash P (Str.ofString "classmethod"), key := Value.str (Str.ofString "classmethod") 59, val := Value.type "classmethod" }, { hash := PyData.keyHash P (Str.ofString "complex"), key := Value.str (Str.ofString "complex") 60, val := Value.type "complex" }, { hash := PyData.keyHash P (Str.ofString "dict"), key := Value.str (Str.ofString "dict") 61, val := Value.type "dict" }, { hash := PyData.keyHash P (Str.ofString "enumerate"), key := Value.str (Str.ofString "enumerate") 62, val := Value.type "enumerate" }, { hash := PyData.keyHash P (Str.ofString "filter"), key := Value.str (Str.ofString "filter") 63, val := Value.type "filter" }, { hash := PyData.keyHash P (Str.ofString "float"), key := Value.str (Str.ofString "float") 64, val := Value.type "float" }, { hash := PyData.keyHash P (Str.ofString "frozenset"), key := Value.str (Str.ofString "frozenset") 65, val := Value.type "frozenset" }, { hash := PyData.keyHash P (Str.ofString "property"), key := Value.str (Str.ofString "property") 66, val := Value.type "property" }, { hash := PyData.keyHash P (Str.ofString "int"), key := Value.str (Str.ofString "int") 67, val := Value.type "int" }, { hash := PyData.keyHash P (Str.ofString "list"), key := Value.str (Str.ofString "list") 68, val := Value.type "list" }, { hash := PyData.keyHash P (Str.ofString "map"), key := Value.str (Str.ofString "map") 69, val := Value.type "map" }, { hash := PyData.keyHash P (Str.ofString "object"), key := Value.str (Str.ofString "object") 70, val := Value.type "object" }, { hash := PyData.keyHash P (Str.ofString "range"), key := Value.str (Str.ofString "range") 71, val := Value.type "range" }, { hash := PyData.keyHash P (Str.ofString "reversed"), key := Value.str (Str.ofString "reversed") 72, val := Value.type "reversed" }, { hash := PyData.keyHash P (Str.ofString "set"), key := Value.str (Str.ofString "set") 73, val := Value.type "set" }, { hash := PyData.keyHash P (Str.ofString "slice"), key := Value.str (Str.ofString "slice") 74, val := Value.type "slice" }, { hash := PyData.keyHash P (Str.ofString "staticmethod"), key := Value.str (Str.ofString "staticmethod") 75, val := Value.type "staticmethod" }, { hash := PyData.keyHash P (Str.ofString "str"), key := Value.str (Str.ofString "str") 76, val := Value.type "str" }, { hash := PyData.keyHash P (Str.ofString "super"), key := Value.str (Str.ofString "super") 77, val := Value.type "super" }, { hash := PyData.keyHash P (Str.ofString "tuple"), key := Value.str (Str.ofString "tuple") 78, val := Value.type "tuple" }, { hash := PyData.keyHash P (Str.ofString "type"), key := Value.str (Str.ofString "type") 79, val := Value.type "type" }, { hash := PyData.keyHash P (Str.ofString "zip"), key := Value.str (Str.ofString "zip") 80, val := Value.type "zip" }, { hash := PyData.keyHash P (Str.ofString "__debug__"), key := Value.str (Str.ofString "__debug__") 81, val := Value.bool Bool.true }, { hash := PyData.keyHash P (Str.ofString "BaseException"), key := Value.str (Str.ofString "BaseException") 82, val := Value.type "BaseException" }, { hash := PyData.keyHash P (Str.ofString "BaseExceptionGroup"), key := Value.str (Str.ofString "BaseExceptionGroup") 83, val := Value.type "BaseExceptionGroup" }, { hash := PyData.keyHash P (Str.ofString "Exception"), key := Value.str (Str.ofString "Exception") 84, val := Value.type "Exception" }, { hash := PyData.keyHash P (Str.ofString "GeneratorExit"), key := Value.str (Str.ofString "GeneratorExit") 85, val := Value.type "GeneratorExit" }, { hash := PyData.keyHash P (Str.ofString "KeyboardInterrupt"), key := Value.str (Str.ofString "KeyboardInterrupt") 86, val := Value.type "KeyboardInterrupt" }, { hash := PyData.keyHash P (Str.ofString "SystemExit"), key := Value.str (Str.ofString "SystemExit") 87, val := Value.type "SystemExit" }, { hash := PyData.keyHash P (Str.ofString "ArithmeticError"), key := Value.str (Str.ofString "ArithmeticError") 88, val := Value.type "ArithmeticError" }, { hash := PyData.keyHash P (Str.ofString "AssertionError"), key := Value.str (Str.ofString "AssertionError") 89, val := Value.type "AssertionError" }, { hash := PyData.keyHash P (Str.ofString "AttributeError"), key := Value.str (Str.ofString "AttributeError") 90, val := Value.type "AttributeError" }, { hash := PyData.keyHash P (Str.ofString "BufferError"), key := Value.str (Str.ofString "BufferError") 91, val := Value.type "BufferError" }, { hash := PyData.keyHash P (Str.ofString "EOFError"), key := Value.str (Str.ofString "EOFError") 92, val := Value.type "EOFError" }, { hash := PyData.keyHash P (Str.ofString "ImportError"), key := Value.str (Str.ofString "ImportError") 93, val := Value.type "ImportError" }, { hash := PyData.keyHash P (Str.ofString "LookupError"), key := Value.str (Str.ofString "LookupError") 94, val := Value.type "LookupError" }, { hash := PyData.keyHash P (Str.ofString "MemoryError"), key := Value.str (Str.ofString "MemoryError") 95, val := Value.type "MemoryError" }, { hash := PyData.keyHash P (Str.ofString "NameError"), key := Value.str (Str.ofString "NameError") 96, val := Value.type "NameError" }, { hash := PyData.keyHash P (Str.ofString "OSError"), key := Value.str (Str.ofString "OSError") 97, val := Value.type "OSError" }, { hash := PyData.keyHash P (Str.ofString "ReferenceError"), key := Value.str (Str.ofString "ReferenceError") 98, val := Value.type "ReferenceError" }, { hash := PyData.keyHash P (Str.ofString "RuntimeError"), key := Value.str (Str.ofString "RuntimeError") 99, val := Value.type "RuntimeError" }, { hash := PyData.keyHash P (Str.ofString "StopAsyncIteration"), key := Value.str (Str.ofString "StopAsyncIteration") 100, val := Value.type "StopAsyncIteration" }, { hash := PyData.keyHash P (Str.ofString "StopIteration"), key := Value.str (Str.ofString "StopIteration") 101, val := Value.type "StopIteration" }, { hash := PyData.keyHash P (Str.ofString "SyntaxError"), key := Value.str (Str.ofString "SyntaxError") 102, val := Value.type "SyntaxError" }, { hash := PyData.keyHash P (Str.ofString "SystemError"), key := Value.str (Str.ofString "SystemError") 103, val := Value.type "SystemError" }, { hash := PyData.keyHash P (Str.ofString "TypeError"), key := Value.str (Str.ofString "TypeError") 104, val := Value.type "TypeError" }, { hash := PyData.keyHash P (Str.ofString "ValueError"), key := Value.str (Str.ofString "ValueError") 105, val := Value.type "ValueError" }, { hash := PyData.keyHash P (Str.ofString "Warning"), key := Value.str (Str.ofString "Warning") 106, val := Value.type "Warning" }, { hash := PyData.keyHash P (Str.ofString "FloatingPointError"), key := Value.str (Str.ofString "FloatingPointError") 107, val := Value.type "FloatingPointError" }, { hash := PyData.keyHash P (Str.ofString "OverflowError"), key := Value.str (Str.ofString "OverflowError") 108, val := Value.type "OverflowError" }, { hash := PyData.keyHash P (Str.ofString "ZeroDivisionError"), key := Value.str (Str.ofString "ZeroDivisionError") 109, val := Value.type "ZeroDivisionError" }, { hash := PyData.keyHash P (Str.ofString "BytesWarning"), key := Value.str (Str.ofString "BytesWarning") 110, val := Value.type "BytesWarning" }, { hash := PyData.keyHash P (Str.ofString "DeprecationWarning"), key := Value.str (Str.ofString "DeprecationWarning") 111, val := Value.type "DeprecationWarning" }, { hash := PyData.keyHash P (Str.ofString "EncodingWarning"), key := Value.str (Str.ofString "EncodingWarning") 112, val := Value.type "EncodingWarning" }, { hash := PyData.keyHash P (Str.ofString "FutureWarning"), key := Value.str (Str.ofString "FutureWarning") 113, val := Value.type "FutureWarning" }, { hash := PyData.keyHash P (Str.ofString "ImportWarning"), key := Value.str (Str.ofString "ImportWarning") 114, val := Value.type "ImportWarning" }, { hash := PyData.keyHash P (Str.ofString "PendingDeprecationWarning"), key := Value.str (Str.ofString "PendingDeprecationWarning") 115, val := Value.type "PendingDeprecationWarning" }, { hash := PyData.keyHash P (Str.ofString "ResourceWarning"), key := Value.str (Str.ofString "ResourceWarning") 116, val := Value.type "ResourceWarning" }, { hash := PyData.keyHash P (Str.ofString "RuntimeWarning"), key := Value.str (Str.ofString "RuntimeWarning") 117, val := Value.type "RuntimeWarning" }, { hash := PyData.keyHash P (Str.ofString "SyntaxWarning"), key := Value.str (Str.ofString "SyntaxWarning") 118, val := Value.type "SyntaxWarning" }, { hash := PyData.keyHash P (Str.ofString "UnicodeWarning"), key := Value.str (Str.ofString "UnicodeWarning") 119, val := Value.type "UnicodeWarning" }, { hash := PyData.keyHash P (Str.ofString "UserWarning"), key := Value.str (Str.ofString "UserWarning") 120, val := Value.type "UserWarning" }, { hash := PyData.keyHash P (Str.ofString "BlockingIOError"), key := Value.str (Str.ofString "BlockingIOError") 121, val := Value.type "BlockingIOError" }, { hash := PyData.keyHash P (Str.ofString "ChildProcessError"), key := Value.str (Str.ofString "ChildProcessError") 122, val := Value.type "ChildProcessError" }, { hash := PyData.keyHash P (Str.ofString "ConnectionError"), key := Value.str (Str.ofString "ConnectionError") 123, val := Value.type "ConnectionError" }, { hash := PyData.keyHash P (Str.ofString "FileExistsError"), key := Value.str (Str.ofString "FileExistsError") 124, val := Value.type "FileExistsError" }, { hash := PyData.keyHash P (Str.ofString "FileNotFoundError"), key := Value.str (Str.ofString "FileNotFoundError") 125, val := Value.type "FileNotFoundError" }, { hash := PyData.keyHash P (Str.ofString "InterruptedError"), key := Value.str (Str.ofString "InterruptedError") 126, val := Value.type "InterruptedError" }, { hash := PyData.keyHash P (Str.ofString "IsADirectoryError"), key := Value.str (Str.ofString "IsADirectoryError") 127, val := Value.type "IsADirectoryError" }, { hash := PyData.keyHash P (Str.ofString "NotADirectoryError"), key := Value.str (Str.ofString "NotADirectoryError") 128, val := Value.type "NotADirectoryError" }, { hash := PyData.keyHash P (Str.ofString "PermissionError"), key := Value.str (Str.ofString "PermissionError") 129, val := Value.type "PermissionError" }, { hash := PyData.keyHash P (Str.ofString "ProcessLookupError"), key := Value.str (Str.ofString "ProcessLookupError") 130, val := Value.type "ProcessLookupError" }, { hash := PyData.keyHash P (Str.ofString "TimeoutError"), key := Value.str (Str.ofString "TimeoutError") 131, val := Value.type "TimeoutError" }, { hash := PyData.keyHash P (Str.ofString "IndentationError"), key := Value.str (Str.ofString "IndentationError") 132, val := Value.type "IndentationError" }, { hash := PyData.keyHash P (Str.ofString "_IncompleteInputError"), key := Value.str (Str.ofString "_IncompleteInputError") 133, val := Value.type "_IncompleteInputError" }, { hash := PyData.keyHash P (Str.ofString "IndexError"), key := Value.str (Str.ofString "IndexError") 134, val := Value.type "IndexError" }, { hash := PyData.keyHash P (Str.ofString "KeyError"), key := Value.str (Str.ofString "KeyError") 135, val := Value.type "KeyError" }, { hash := PyData.keyHash P (Str.ofString "ModuleNotFoundError"), key := Value.str (Str.ofString "ModuleNotFoundError") 136, val := Value.type "ModuleNotFoundError" }, { hash := PyData.keyHash P (Str.ofString "NotImplementedError"), key := Value.str (Str.ofString "NotImplementedError") 137, val := Value.type "NotImplementedError" }, { hash := PyData.keyHash P (Str.ofString "PythonFinalizationError"), key := Value.str (Str.ofString "PythonFinalizationError") 138, val := Value.type "PythonFinalizationError" }, { hash := PyData.keyHash P (Str.ofString "RecursionError"), key := Value.str (Str.ofString "RecursionError") 139, val := Value.type "RecursionError" }, { hash := PyData.keyHash P (Str.ofString "UnboundLocalError"), key := Value.str (Str.ofString "UnboundLocalError") 140, val := Value.type "UnboundLocalError" }, { hash := PyData.keyHash P (Str.ofString "UnicodeError"), key := Value.str (Str.ofString "UnicodeError") 141, val := Value.type "UnicodeError" }, { hash := PyData.keyHash P (Str.ofString "BrokenPipeError"), key := Value.str (Str.ofString "BrokenPipeError") 142, val := Value.type "BrokenPipeError" }, { hash := PyData.keyHash P (Str.ofString "ConnectionAbortedError"), key := Value.str (Str.ofString "ConnectionAbortedError") 143, val := Value.type "ConnectionAbortedError" }, { hash := PyData.keyHash P (Str.ofString "ConnectionRefusedError"), key := Value.str (Str.ofString "ConnectionRefusedError") 144, val := Value.type "ConnectionRefusedError" }, { hash := PyData.keyHash P (Str.ofString "ConnectionResetError"), key := Value.str (Str.ofString "ConnectionResetError") 145, val := Value.type "ConnectionResetError" }, { hash := PyData.keyHash P (Str.ofString "TabError"), key := Value.str (Str.ofString "TabError") 146, val := Value.type "TabError" }, { hash := PyData.keyHash P (Str.ofString "UnicodeDecodeError"), key := Value.str (Str.ofString "UnicodeDecodeError") 147, val := Value.type "UnicodeDecodeError" }, { hash := PyData.keyHash P (Str.ofString "UnicodeEncodeError"), key := Value.str (Str.ofString "UnicodeEncodeError") 148, val := Value.type "UnicodeEncodeError" }, { hash := PyData.keyHash P (Str.ofString "UnicodeTranslateError"), key := Value.str (Str.ofString "UnicodeTranslateError") 149, val := Value.type "UnicodeTranslateError" }, { hash := PyData.keyHash P (Str.ofString "ExceptionGroup"), key := Value.str (Str.ofString "ExceptionGroup") 150, val := Value.type "ExceptionGroup" }, { hash := PyData.keyHash P (Str.ofString "EnvironmentError"), key := Value.str (Str.ofString "EnvironmentError") 151, val := Value.type "OSError" }, { hash := PyData.keyHash P (Str.ofString "IOError"), key := Value.str (Str.ofString "IOError") 152, val := Value.type "OSError" }, { hash := PyData.keyHash P (Str.ofString "open"), key := Value.str (Str.ofString "open") 153, val := Value.builtin "open" }, { hash := PyData.keyHash P (Str.ofString "quit"), key := Value.str (Str.ofString "quit") 154, val := Value.builtin "builtins.quit#opaque" }, { hash := PyData.keyHash P (Str.ofString "exit"), key := Value.str (Str.ofString "exit") 155, val := Value.builtin "builtins.exit#opaque" }, { hash := PyData.keyHash P (Str.ofString "copyright"), key := Value.str (Str.ofString "copyright") 156, val := Value.builtin "builtins.copyright#opaque" }, { hash := PyData.keyHash P (Str.ofString "credits"), key := Value.str (Str.ofString "credits") 157, val := Value.builtin "builtins.credits#opaque" }, { hash := PyData.keyHash P (Str.ofString "license"), key := Value.str (Str.ofString "license") 158, val := Value.builtin "builtins.license#opaque" }, { hash := PyData.keyHash P (Str.ofString "help"), key := Value.str (Str.ofString "help") 159, val := Value.builtin "builtins.help#opaque" }] 159 }
noncomputable def o1 (P : Params) : Obj := { cls := Value.type "dict", data := Data.dict #[{ hash := PyData.keyHash P (Str.ofString "builtins"), key := Value.str (Str.ofString "builtins") 162, val := Value.ref 4 }, { hash := PyData.keyHash P (Str.ofString "__main__"), key := Value.str (Str.ofString "__main__") 163, val := Value.ref 5 }] 2 }
noncomputable def o2 (P : Params) : Obj := { cls := Value.none, data := Data.dict #[] }
noncomputable def o3 (P : Params) : Obj := { cls := Value.type "dict", data := Data.dict #[{ hash := PyData.keyHash P (Str.ofString "__name__"), key := Value.str (Str.ofString "__name__") 165, val := Value.str (Str.ofString "__main__") 164 }, { hash := PyData.keyHash P (Str.ofString "__doc__"), key := Value.str (Str.ofString "__doc__") 166, val := Value.none }, { hash := PyData.keyHash P (Str.ofString "__package__"), key := Value.str (Str.ofString "__package__") 167, val := Value.none }, { hash := PyData.keyHash P (Str.ofString "__loader__"), key := Value.str (Str.ofString "__loader__") 168, val := Value.builtin "__main__.__loader__#opaque" }, { hash := PyData.keyHash P (Str.ofString "__spec__"), key := Value.str (Str.ofString "__spec__") 169, val := Value.none }, { hash := PyData.keyHash P (Str.ofString "__annotations__"), key := Value.str (Str.ofString "__annotations__") 170, val := Value.ref 6 }, { hash := PyData.keyHash P (Str.ofString "__builtins__"), key := Value.str (Str.ofString "__builtins__") 171, val := Value.ref 4 }, { hash := PyData.keyHash P (Str.ofString "__file__"), key := Value.str (Str.ofString "__file__") 173, val := Value.str (Str.ofString "/claim/cut.py") 172 }, { hash := PyData.keyHash P (Str.ofString "__cached__"), key := Value.str (Str.ofString "__cached__") 174, val := Value.none }] 9 }
noncomputable def o4 (P : Params) : Obj := { cls := Value.type "module", dict := Option.some 0 }
noncomputable def o5 (P : Params) : Obj := { cls := Value.type "module", dict := Option.some 3 }
noncomputable def o6 (P : Params) : Obj := { cls := Value.type "dict", data := Data.dict #[] }
noncomputable def o7 (P : Params) : Obj := { cls := Value.type "tuple", data := Data.seq #[] }
noncomputable def o8 (P : Params) : Obj := { cls := Value.none, data := Data.fields #[] }
noncomputable def o9 (P : Params) : Obj := { cls := Value.type "code", data := Data.fields #[Value.str (Str.ofString "<module>") 176, Value.str (Str.ofString "<module>") 177, Value.str (Str.ofString "/claim/cut.py") 178, Value.int 1 0, Value.int 0 0, Value.int 0 0, Value.int 0 0, Value.int 0 0, Value.ref 7, Value.bool Bool.false, Value.int 175 0, Value.ref 8, Value.none, Value.none, Value.none, Value.none, Value.int 179 0, Value.int 1 0, Value.str (Str.ofString "/claim/cut.py") 180] }
noncomputable def o10 (P : Params) : Obj := { cls := Value.type "frame", slots := #[Option.some (Value.ref 9), Option.some (Value.ref 3), Option.some (Value.ref 3), Option.none, Option.some (Value.str (Str.ofString "__main__") 164), Option.none, Option.some (Value.ref 0)] }
noncomputable def o11 (P : Params) : Obj := { cls := Value.type "tuple", data := Data.seq #[] }
noncomputable def o12 (P : Params) : Obj := { cls := Value.none, data := Data.fields #[] }
noncomputable def o13 (P : Params) : Obj := { cls := Value.type "code", data := Data.fields #[Value.str (Str.ofString "<module>") 182, Value.str (Str.ofString "<module>") 183, Value.str (Str.ofString "/claim/cut.py") 184, Value.int 1 0, Value.int 0 0, Value.int 0 0, Value.int 0 0, Value.int 0 0, Value.ref 11, Value.bool Bool.false, Value.int 181 0, Value.ref 12, Value.none, Value.none, Value.none, Value.none, Value.int 185 0, Value.int 1 0, Value.str (Str.ofString "/claim/cut.py") 186] }
noncomputable def o14 (P : Params) : Obj := { cls := Value.type "frame", slots := #[Option.some (Value.ref 13), Option.some (Value.ref 3), Option.some (Value.ref 3), Option.none, Option.some (Value.str (Str.ofString "__main__") 164), Option.none, Option.some (Value.ref 0)] }
noncomputable def o2v5 (P : Params) : Obj := { cls := Value.none, data := Data.dict #[{ hash := PyData.keyHash P (Str.ofString "type.__subclasses__.Exception.0"), key := Value.str (Str.ofString "type.__subclasses__.Exception.0") 232, val := Value.int 46 0 }, { hash := PyData.keyHash P (Str.ofString "type.__subclasses__.Exception.n"), key := Value.str (Str.ofString "type.__subclasses__.Exception.n") 233, val := Value.int 1 0 }] 2 }
noncomputable def o3v5 (P : Params) : Obj := { cls := Value.type "dict", data := Data.dict #[{ hash := PyData.keyHash P (Str.ofString "__name__"), key := Value.str (Str.ofString "__name__") 165, val := Value.str (Str.ofString "paperhold.decimals") 236 }, { hash := PyData.keyHash P (Str.ofString "__doc__"), key := Value.str (Str.ofString "__doc__") 166, val := Value.none }, { hash := PyData.keyHash P (Str.ofString "__package__"), key := Value.str (Str.ofString "__package__") 167, val := Value.none }, { hash := PyData.keyHash P (Str.ofString "__loader__"), key := Value.str (Str.ofString "__loader__") 168, val := Value.builtin "__main__.__loader__#opaque" }, { hash := PyData.keyHash P (Str.ofString "__spec__"), key := Value.str (Str.ofString "__spec__") 169, val := Value.none }, { hash := PyData.keyHash P (Str.ofString "__annotations__"), key := Value.str (Str.ofString "__annotations__") 170, val := Value.ref 6 }, { hash := PyData.keyHash P (Str.ofString "__builtins__"), key := Value.str (Str.ofString "__builtins__") 171, val := Value.ref 4 }, { hash := PyData.keyHash P (Str.ofString "__file__"), key := Value.str (Str.ofString "__file__") 173, val := Value.str (Str.ofString "/claim/cut.py") 172 }, { hash := PyData.keyHash P (Str.ofString "__cached__"), key := Value.str (Str.ofString "__cached__") 174, val := Value.none }, { hash := PyData.keyHash P (Str.ofString "_wall"), key := Value.str (Str.ofString "_wall") 193, val := Value.ref 21 }, { hash := PyData.keyHash P (Str.ofString "PaperError"), key := Value.str (Str.ofString "PaperError") 235, val := Value.ref 46 }] 11 }
noncomputable def o12v5 (P : Params) : Obj := { cls := Value.none, data := Data.fields #[Value.int 1 0, Value.int 0 0, Value.ref 20, Value.int 5 0, Value.int 0 0, Value.ref 27] }
noncomputable def o15 (P : Params) : Obj := { cls := Value.type "tuple", data := Data.seq #[] }
noncomputable def o16 (P : Params) : Obj := { cls := Value.none, data := Data.fields #[] }
noncomputable def o17 (P : Params) : Obj := { cls := Value.type "tuple", data := Data.seq #[Value.str (Str.ofString "k") 190] }
noncomputable def o18 (P : Params) : Obj := { cls := Value.type "tuple", data := Data.seq #[] }
noncomputable def o19 (P : Params) : Obj := { cls := Value.none, data := Data.func { name := Str.ofString "_wall", qualname := Str.ofString "_wall", params := parOf (stAt 0), body := .stmts (bodOf (stAt 0)), scope := scoOf (stAt 0), globals := 0, closure := [], defaults := Value.none, kwdefaults := Value.none } }
noncomputable def o20 (P : Params) : Obj := { cls := Value.type "code", data := Data.fields #[Value.str (Str.ofString "_wall") 187, Value.str (Str.ofString "_wall") 188, Value.str (Str.ofString "/claim/cut.py") 189, Value.int 1 0, Value.int 1 0, Value.int 0 0, Value.int 0 0, Value.int 3 0, Value.ref 15, Value.bool Bool.true, Value.int 181 0, Value.ref 16, Value.none, Value.ref 17, Value.ref 18, Value.ref 19, Value.int 191 0, Value.int 1 0, Value.str (Str.ofString "/claim/cut.py") 192] }
noncomputable def o21 (P : Params) : Obj := { cls := Value.type "function", data := Data.func { name := Str.ofString "_wall", qualname := Str.ofString "_wall", params := parOf (stAt 0), body := .stmts (bodOf (stAt 0)), scope := scoOf (stAt 0), globals := 3, closure := [], defaults := Value.none, kwdefaults := Value.none, pyModule := Value.str (Str.ofString "__main__") 164, code := Value.ref 20 } }
noncomputable def o22 (P : Params) : Obj := { cls := Value.type "tuple", data := Data.seq #[Value.type "Exception"] }
noncomputable def o23 (P : Params) : Obj := { cls := Value.type "builtin_function_or_method", data := Data.fields #[Value.builtin "type.__prepare__", Value.type "type"] }
noncomputable def o24 (P : Params) : Obj := { cls := Value.type "dict", data := Data.dict #[{ hash := PyData.keyHash P (Str.ofString "__module__"), key := Value.str (Str.ofString "__module__") 203, val := Value.str (Str.ofString "paperhold.errors") 194 }, { hash := PyData.keyHash P (Str.ofString "__qualname__"), key := Value.str (Str.ofString "__qualname__") 205, val := Value.str (Str.ofString "PaperError") 204 }, { hash := PyData.keyHash P (Str.ofString "__firstlineno__"), key := Value.str (Str.ofString "__firstlineno__") 207, val := Value.int 5 206 }, { hash := PyData.keyHash P (Str.ofString "__init__"), key := Value.str (Str.ofString "__init__") 218, val := Value.ref 36 }, { hash := PyData.keyHash P (Str.ofString "told"), key := Value.str (Str.ofString "told") 225, val := Value.ref 43 }, { hash := PyData.keyHash P (Str.ofString "__static_attributes__"), key := Value.str (Str.ofString "__static_attributes__") 228, val := Value.ref 44 }] 6 }
noncomputable def o25 (P : Params) : Obj := { cls := Value.type "tuple", data := Data.seq #[] }
noncomputable def o26 (P : Params) : Obj := { cls := Value.none, data := Data.fields #[Value.int 7 0, Value.int 4 0, Value.ref 35, Value.int 12 0, Value.int 4 0, Value.ref 42] }
noncomputable def o27 (P : Params) : Obj := { cls := Value.type "code", data := Data.fields #[Value.str (Str.ofString "PaperError") 198, Value.str (Str.ofString "PaperError") 199, Value.str (Str.ofString "/claim/cut.py") 200, Value.int 5 0, Value.int 0 0, Value.int 0 0, Value.int 0 0, Value.int 0 0, Value.ref 25, Value.bool Bool.false, Value.int 181 0, Value.ref 26, Value.none, Value.none, Value.none, Value.none, Value.int 201 0, Value.int 5 0, Value.str (Str.ofString "/claim/cut.py") 202] }
noncomputable def o28 (P : Params) : Obj := { cls := Value.type "frame", slots := #[Option.some (Value.ref 27), Option.some (Value.ref 3), Option.some (Value.ref 24), Option.none, Option.some (Value.str (Str.ofString "paperhold.errors") 194), Option.none, Option.some (Value.ref 0)] }
noncomputable def o29 (P : Params) : Obj := { cls := Value.type "tuple", data := Data.seq #[Value.int (-1) 209] }
noncomputable def o30 (P : Params) : Obj := { cls := Value.type "tuple", data := Data.seq #[] }
noncomputable def o31 (P : Params) : Obj := { cls := Value.none, data := Data.fields #[] }
noncomputable def o32 (P : Params) : Obj := { cls := Value.type "tuple", data := Data.seq #[Value.str (Str.ofString "self") 213, Value.str (Str.ofString "what") 214, Value.str (Str.ofString "at") 215] }
noncomputable def o33 (P : Params) : Obj := { cls := Value.type "tuple", data := Data.seq #[] }
noncomputable def o34 (P : Params) : Obj := { cls := Value.none, data := Data.func { name := Str.ofString "__init__", qualname := Str.ofString "PaperError.__init__", params := parOf (inCls (stAt 2) 0), body := .stmts (bodOf (inCls (stAt 2) 0)), scope := scoOf (inCls (stAt 2) 0), globals := 0, closure := [], defaults := Value.none, kwdefaults := Value.none } }
noncomputable def o35 (P : Params) : Obj := { cls := Value.type "code", data := Data.fields #[Value.str (Str.ofString "__init__") 210, Value.str (Str.ofString "PaperError.__init__") 211, Value.str (Str.ofString "/claim/cut.py") 212, Value.int 7 0, Value.int 3 0, Value.int 0 0, Value.int 0 0, Value.int 3 0, Value.ref 30, Value.bool Bool.true, Value.int 181 0, Value.ref 31, Value.none, Value.ref 32, Value.ref 33, Value.ref 34, Value.int 216 0, Value.int 7 0, Value.str (Str.ofString "/claim/cut.py") 217] }
noncomputable def o36 (P : Params) : Obj := { cls := Value.type "function", data := Data.func { name := Str.ofString "__init__", qualname := Str.ofString "PaperError.__init__", params := parOf (inCls (stAt 2) 0), body := .stmts (bodOf (inCls (stAt 2) 0)), scope := scoOf (inCls (stAt 2) 0), globals := 3, closure := [], defaults := Value.ref 29, kwdefaults := Value.none, pyModule := Value.str (Str.ofString "paperhold.errors") 194, code := Value.ref 35 } }
noncomputable def o37 (P : Params) : Obj := { cls := Value.type "tuple", data := Data.seq #[] }
noncomputable def o38 (P : Params) : Obj := { cls := Value.none, data := Data.fields #[] }
noncomputable def o39 (P : Params) : Obj := { cls := Value.type "tuple", data := Data.seq #[Value.str (Str.ofString "self") 222] }
noncomputable def o40 (P : Params) : Obj := { cls := Value.type "tuple", data := Data.seq #[] }
noncomputable def o41 (P : Params) : Obj := { cls := Value.none, data := Data.func { name := Str.ofString "told", qualname := Str.ofString "PaperError.told", params := parOf (inCls (stAt 2) 1), body := .stmts (bodOf (inCls (stAt 2) 1)), scope := scoOf (inCls (stAt 2) 1), globals := 0, closure := [], defaults := Value.none, kwdefaults := Value.none } }
noncomputable def o42 (P : Params) : Obj := { cls := Value.type "code", data := Data.fields #[Value.str (Str.ofString "told") 219, Value.str (Str.ofString "PaperError.told") 220, Value.str (Str.ofString "/claim/cut.py") 221, Value.int 12 0, Value.int 1 0, Value.int 0 0, Value.int 0 0, Value.int 3 0, Value.ref 37, Value.bool Bool.true, Value.int 181 0, Value.ref 38, Value.none, Value.ref 39, Value.ref 40, Value.ref 41, Value.int 223 0, Value.int 12 0, Value.str (Str.ofString "/claim/cut.py") 224] }
noncomputable def o43 (P : Params) : Obj := { cls := Value.type "function", data := Data.func { name := Str.ofString "told", qualname := Str.ofString "PaperError.told", params := parOf (inCls (stAt 2) 1), body := .stmts (bodOf (inCls (stAt 2) 1)), scope := scoOf (inCls (stAt 2) 1), globals := 3, closure := [], defaults := Value.none, kwdefaults := Value.none, pyModule := Value.str (Str.ofString "paperhold.errors") 194, code := Value.ref 42 } }
noncomputable def o44 (P : Params) : Obj := { cls := Value.type "tuple", data := Data.seq #[Value.str (Str.ofString "at") 226, Value.str (Str.ofString "what") 227] }
noncomputable def o45 (P : Params) : Obj := { cls := Value.type "dict", data := Data.dict #[{ hash := PyData.keyHash P (Str.ofString "__module__"), key := Value.str (Str.ofString "__module__") 203, val := Value.str (Str.ofString "paperhold.errors") 194 }, { hash := PyData.keyHash P (Str.ofString "__firstlineno__"), key := Value.str (Str.ofString "__firstlineno__") 207, val := Value.int 5 206 }, { hash := PyData.keyHash P (Str.ofString "__init__"), key := Value.str (Str.ofString "__init__") 218, val := Value.ref 36 }, { hash := PyData.keyHash P (Str.ofString "told"), key := Value.str (Str.ofString "told") 225, val := Value.ref 43 }, { hash := PyData.keyHash P (Str.ofString "__static_attributes__"), key := Value.str (Str.ofString "__static_attributes__") 228, val := Value.ref 44 }, { hash := PyData.keyHash P (Str.ofString "__weakref__"), key := Value.str (Str.ofString "__weakref__") 230, val := Value.ref 47 }, { hash := PyData.keyHash P (Str.ofString "__doc__"), key := Value.str (Str.ofString "__doc__") 231, val := Value.none }] 3 }
noncomputable def o46 (P : Params) : Obj := { cls := Value.type "type", data := Data.cls { name := Str.ofString "PaperError", bases := [Value.type "Exception"], mro := [Value.ref 46, Value.type "Exception", Value.type "BaseException", Value.type "object"], ns := 45, qualname := Str.ofString "PaperError" }, slots := #[Option.some (Value.ref 22), Option.none, Option.some (Value.str (Str.ofString "PaperError") 196), Option.some (Value.str (Str.ofString "PaperError") 204), Option.some (Value.builtin "Exception.__new__"), Option.some (Value.bool Bool.true)] }
noncomputable def o47 (P : Params) : Obj := { cls := Value.type "getset_descriptor", data := Data.fields #[Value.str (Str.ofString "__weakref__") 229, Value.ref 46, Value.builtin "ExceptionGroup.__weakref__", Value.none] }
noncomputable def o48 (P : Params) : Obj := { cls := Value.type "super", data := Data.fields #[Value.ref 46, Value.ref 46, Value.ref 46] }
noncomputable def o49 (P : Params) : Obj := { cls := Value.type "builtin_function_or_method", data := Data.fields #[Value.builtin "object.__init_subclass__", Value.ref 46] }
noncomputable def o3v6 (P : Params) : Obj := { cls := Value.type "dict", data := Data.dict #[{ hash := PyData.keyHash P (Str.ofString "__name__"), key := Value.str (Str.ofString "__name__") 165, val := Value.str (Str.ofString "paperhold.decimals") 236 }, { hash := PyData.keyHash P (Str.ofString "__doc__"), key := Value.str (Str.ofString "__doc__") 166, val := Value.none }, { hash := PyData.keyHash P (Str.ofString "__package__"), key := Value.str (Str.ofString "__package__") 167, val := Value.none }, { hash := PyData.keyHash P (Str.ofString "__loader__"), key := Value.str (Str.ofString "__loader__") 168, val := Value.builtin "__main__.__loader__#opaque" }, { hash := PyData.keyHash P (Str.ofString "__spec__"), key := Value.str (Str.ofString "__spec__") 169, val := Value.none }, { hash := PyData.keyHash P (Str.ofString "__annotations__"), key := Value.str (Str.ofString "__annotations__") 170, val := Value.ref 6 }, { hash := PyData.keyHash P (Str.ofString "__builtins__"), key := Value.str (Str.ofString "__builtins__") 171, val := Value.ref 4 }, { hash := PyData.keyHash P (Str.ofString "__file__"), key := Value.str (Str.ofString "__file__") 173, val := Value.str (Str.ofString "/claim/cut.py") 172 }, { hash := PyData.keyHash P (Str.ofString "__cached__"), key := Value.str (Str.ofString "__cached__") 174, val := Value.none }, { hash := PyData.keyHash P (Str.ofString "_wall"), key := Value.str (Str.ofString "_wall") 193, val := Value.ref 21 }, { hash := PyData.keyHash P (Str.ofString "PaperError"), key := Value.str (Str.ofString "PaperError") 235, val := Value.ref 46 }, { hash := PyData.keyHash P (Str.ofString "Decimal"), key := Value.str (Str.ofString "Decimal") 351, val := Value.ref 143 }] 12 }
noncomputable def o12v6 (P : Params) : Obj := { cls := Value.none, data := Data.fields #[Value.int 1 0, Value.int 0 0, Value.ref 20, Value.int 5 0, Value.int 0 0, Value.ref 27, Value.int 15 0, Value.int 0 0, Value.ref 55] }
noncomputable def o50 (P : Params) : Obj := { cls := Value.type "tuple", data := Data.seq #[] }
noncomputable def o51 (P : Params) : Obj := { cls := Value.type "builtin_function_or_method", data := Data.fields #[Value.builtin "type.__prepare__", Value.type "type"] }
noncomputable def o52 (P : Params) : Obj := { cls := Value.type "dict", data := Data.dict #[{ hash := PyData.keyHash P (Str.ofString "__module__"), key := Value.str (Str.ofString "__module__") 245, val := Value.str (Str.ofString "paperhold.decimals") 236 }, { hash := PyData.keyHash P (Str.ofString "__qualname__"), key := Value.str (Str.ofString "__qualname__") 247, val := Value.str (Str.ofString "Decimal") 246 }, { hash := PyData.keyHash P (Str.ofString "__firstlineno__"), key := Value.str (Str.ofString "__firstlineno__") 249, val := Value.int 15 248 }, { hash := PyData.keyHash P (Str.ofString "__init__"), key := Value.str (Str.ofString "__init__") 258, val := Value.ref 63 }, { hash := PyData.keyHash P (Str.ofString "plus"), key := Value.str (Str.ofString "plus") 266, val := Value.ref 70 }, { hash := PyData.keyHash P (Str.ofString "minus"), key := Value.str (Str.ofString "minus") 274, val := Value.ref 77 }, { hash := PyData.keyHash P (Str.ofString "times"), key := Value.str (Str.ofString "times") 282, val := Value.ref 84 }, { hash := PyData.keyHash P (Str.ofString "negated"), key := Value.str (Str.ofString "negated") 289, val := Value.ref 91 }, { hash := PyData.keyHash P (Str.ofString "compared"), key := Value.str (Str.ofString "compared") 297, val := Value.ref 98 }, { hash := PyData.keyHash P (Str.ofString "is_whole"), key := Value.str (Str.ofString "is_whole") 304, val := Value.ref 105 }, { hash := PyData.keyHash P (Str.ofString "floor"), key := Value.str (Str.ofString "floor") 311, val := Value.ref 112 }, { hash := PyData.keyHash P (Str.ofString "rounded"), key := Value.str (Str.ofString "rounded") 319, val := Value.ref 119 }, { hash := PyData.keyHash P (Str.ofString "told"), key := Value.str (Str.ofString "told") 326, val := Value.ref 126 }, { hash := PyData.keyHash P (Str.ofString "text"), key := Value.str (Str.ofString "text") 334, val := Value.ref 133 }, { hash := PyData.keyHash P (Str.ofString "least_text"), key := Value.str (Str.ofString "least_text") 341, val := Value.ref 140 }, { hash := PyData.keyHash P (Str.ofString "__static_attributes__"), key := Value.str (Str.ofString "__static_attributes__") 344, val := Value.ref 141 }] 16 }
noncomputable def o53 (P : Params) : Obj := { cls := Value.type "tuple", data := Data.seq #[] }
noncomputable def o54 (P : Params) : Obj := { cls := Value.none, data := Data.fields #[Value.int 17 0, Value.int 4 0, Value.ref 62, Value.int 24 0, Value.int 4 0, Value.ref 69, Value.int 27 0, Value.int 4 0, Value.ref 76, Value.int 30 0, Value.int 4 0, Value.ref 83, Value.int 33 0, Value.int 4 0, Value.ref 90, Value.int 36 0, Value.int 4 0, Value.ref 97, Value.int 39 0, Value.int 4 0, Value.ref 104, Value.int 42 0, Value.int 4 0, Value.ref 111, Value.int 45 0, Value.int 4 0, Value.ref 118, Value.int 48 0, Value.int 4 0, Value.ref 125, Value.int 51 0, Value.int 4 0, Value.ref 132, Value.int 58 0, Value.int 4 0, Value.ref 139] }
noncomputable def o55 (P : Params) : Obj := { cls := Value.type "code", data := Data.fields #[Value.str (Str.ofString "Decimal") 240, Value.str (Str.ofString "Decimal") 241, Value.str (Str.ofString "/claim/cut.py") 242, Value.int 15 0, Value.int 0 0, Value.int 0 0, Value.int 0 0, Value.int 0 0, Value.ref 53, Value.bool Bool.false, Value.int 181 0, Value.ref 54, Value.none, Value.none, Value.none, Value.none, Value.int 243 0, Value.int 15 0, Value.str (Str.ofString "/claim/cut.py") 244] }
noncomputable def o56 (P : Params) : Obj := { cls := Value.type "frame", slots := #[Option.some (Value.ref 55), Option.some (Value.ref 3), Option.some (Value.ref 52), Option.none, Option.some (Value.str (Str.ofString "paperhold.decimals") 236), Option.none, Option.some (Value.ref 0)] }
noncomputable def o57 (P : Params) : Obj := { cls := Value.type "tuple", data := Data.seq #[] }
noncomputable def o58 (P : Params) : Obj := { cls := Value.none, data := Data.fields #[] }
noncomputable def o59 (P : Params) : Obj := { cls := Value.type "tuple", data := Data.seq #[Value.str (Str.ofString "self") 253, Value.str (Str.ofString "top") 254, Value.str (Str.ofString "places") 255] }
noncomputable def o60 (P : Params) : Obj := { cls := Value.type "tuple", data := Data.seq #[] }
noncomputable def o61 (P : Params) : Obj := { cls := Value.none, data := Data.func { name := Str.ofString "__init__", qualname := Str.ofString "Decimal.__init__", params := parOf (inCls (stAt 4) 0), body := .stmts (bodOf (inCls (stAt 4) 0)), scope := scoOf (inCls (stAt 4) 0), globals := 0, closure := [], defaults := Value.none, kwdefaults := Value.none } }
noncomputable def o62 (P : Params) : Obj := { cls := Value.type "code", data := Data.fields #[Value.str (Str.ofString "__init__") 250, Value.str (Str.ofString "Decimal.__init__") 251, Value.str (Str.ofString "/claim/cut.py") 252, Value.int 17 0, Value.int 3 0, Value.int 0 0, Value.int 0 0, Value.int 3 0, Value.ref 57, Value.bool Bool.true, Value.int 181 0, Value.ref 58, Value.none, Value.ref 59, Value.ref 60, Value.ref 61, Value.int 256 0, Value.int 17 0, Value.str (Str.ofString "/claim/cut.py") 257] }
noncomputable def o63 (P : Params) : Obj := { cls := Value.type "function", data := Data.func { name := Str.ofString "__init__", qualname := Str.ofString "Decimal.__init__", params := parOf (inCls (stAt 4) 0), body := .stmts (bodOf (inCls (stAt 4) 0)), scope := scoOf (inCls (stAt 4) 0), globals := 3, closure := [], defaults := Value.none, kwdefaults := Value.none, pyModule := Value.str (Str.ofString "paperhold.decimals") 236, code := Value.ref 62 } }
noncomputable def o64 (P : Params) : Obj := { cls := Value.type "tuple", data := Data.seq #[] }
noncomputable def o65 (P : Params) : Obj := { cls := Value.none, data := Data.fields #[] }
noncomputable def o66 (P : Params) : Obj := { cls := Value.type "tuple", data := Data.seq #[Value.str (Str.ofString "self") 262, Value.str (Str.ofString "other") 263] }
noncomputable def o67 (P : Params) : Obj := { cls := Value.type "tuple", data := Data.seq #[] }
noncomputable def o68 (P : Params) : Obj := { cls := Value.none, data := Data.func { name := Str.ofString "plus", qualname := Str.ofString "Decimal.plus", params := parOf (inCls (stAt 4) 1), body := .stmts (bodOf (inCls (stAt 4) 1)), scope := scoOf (inCls (stAt 4) 1), globals := 0, closure := [], defaults := Value.none, kwdefaults := Value.none } }
noncomputable def o69 (P : Params) : Obj := { cls := Value.type "code", data := Data.fields #[Value.str (Str.ofString "plus") 259, Value.str (Str.ofString "Decimal.plus") 260, Value.str (Str.ofString "/claim/cut.py") 261, Value.int 24 0, Value.int 2 0, Value.int 0 0, Value.int 0 0, Value.int 3 0, Value.ref 64, Value.bool Bool.true, Value.int 181 0, Value.ref 65, Value.none, Value.ref 66, Value.ref 67, Value.ref 68, Value.int 264 0, Value.int 24 0, Value.str (Str.ofString "/claim/cut.py") 265] }
noncomputable def o70 (P : Params) : Obj := { cls := Value.type "function", data := Data.func { name := Str.ofString "plus", qualname := Str.ofString "Decimal.plus", params := parOf (inCls (stAt 4) 1), body := .stmts (bodOf (inCls (stAt 4) 1)), scope := scoOf (inCls (stAt 4) 1), globals := 3, closure := [], defaults := Value.none, kwdefaults := Value.none, pyModule := Value.str (Str.ofString "paperhold.decimals") 236, code := Value.ref 69 } }
noncomputable def o71 (P : Params) : Obj := { cls := Value.type "tuple", data := Data.seq #[] }
noncomputable def o72 (P : Params) : Obj := { cls := Value.none, data := Data.fields #[] }
noncomputable def o73 (P : Params) : Obj := { cls := Value.type "tuple", data := Data.seq #[Value.str (Str.ofString "self") 270, Value.str (Str.ofString "other") 271] }
noncomputable def o74 (P : Params) : Obj := { cls := Value.type "tuple", data := Data.seq #[] }
noncomputable def o75 (P : Params) : Obj := { cls := Value.none, data := Data.func { name := Str.ofString "minus", qualname := Str.ofString "Decimal.minus", params := parOf (inCls (stAt 4) 2), body := .stmts (bodOf (inCls (stAt 4) 2)), scope := scoOf (inCls (stAt 4) 2), globals := 0, closure := [], defaults := Value.none, kwdefaults := Value.none } }
noncomputable def o76 (P : Params) : Obj := { cls := Value.type "code", data := Data.fields #[Value.str (Str.ofString "minus") 267, Value.str (Str.ofString "Decimal.minus") 268, Value.str (Str.ofString "/claim/cut.py") 269, Value.int 27 0, Value.int 2 0, Value.int 0 0, Value.int 0 0, Value.int 3 0, Value.ref 71, Value.bool Bool.true, Value.int 181 0, Value.ref 72, Value.none, Value.ref 73, Value.ref 74, Value.ref 75, Value.int 272 0, Value.int 27 0, Value.str (Str.ofString "/claim/cut.py") 273] }
noncomputable def o77 (P : Params) : Obj := { cls := Value.type "function", data := Data.func { name := Str.ofString "minus", qualname := Str.ofString "Decimal.minus", params := parOf (inCls (stAt 4) 2), body := .stmts (bodOf (inCls (stAt 4) 2)), scope := scoOf (inCls (stAt 4) 2), globals := 3, closure := [], defaults := Value.none, kwdefaults := Value.none, pyModule := Value.str (Str.ofString "paperhold.decimals") 236, code := Value.ref 76 } }
noncomputable def o78 (P : Params) : Obj := { cls := Value.type "tuple", data := Data.seq #[] }
noncomputable def o79 (P : Params) : Obj := { cls := Value.none, data := Data.fields #[] }
noncomputable def o80 (P : Params) : Obj := { cls := Value.type "tuple", data := Data.seq #[Value.str (Str.ofString "self") 278, Value.str (Str.ofString "other") 279] }
noncomputable def o81 (P : Params) : Obj := { cls := Value.type "tuple", data := Data.seq #[] }
noncomputable def o82 (P : Params) : Obj := { cls := Value.none, data := Data.func { name := Str.ofString "times", qualname := Str.ofString "Decimal.times", params := parOf (inCls (stAt 4) 3), body := .stmts (bodOf (inCls (stAt 4) 3)), scope := scoOf (inCls (stAt 4) 3), globals := 0, closure := [], defaults := Value.none, kwdefaults := Value.none } }
noncomputable def o83 (P : Params) : Obj := { cls := Value.type "code", data := Data.fields #[Value.str (Str.ofString "times") 275, Value.str (Str.ofString "Decimal.times") 276, Value.str (Str.ofString "/claim/cut.py") 277, Value.int 30 0, Value.int 2 0, Value.int 0 0, Value.int 0 0, Value.int 3 0, Value.ref 78, Value.bool Bool.true, Value.int 181 0, Value.ref 79, Value.none, Value.ref 80, Value.ref 81, Value.ref 82, Value.int 280 0, Value.int 30 0, Value.str (Str.ofString "/claim/cut.py") 281] }
noncomputable def o84 (P : Params) : Obj := { cls := Value.type "function", data := Data.func { name := Str.ofString "times", qualname := Str.ofString "Decimal.times", params := parOf (inCls (stAt 4) 3), body := .stmts (bodOf (inCls (stAt 4) 3)), scope := scoOf (inCls (stAt 4) 3), globals := 3, closure := [], defaults := Value.none, kwdefaults := Value.none, pyModule := Value.str (Str.ofString "paperhold.decimals") 236, code := Value.ref 83 } }
noncomputable def o85 (P : Params) : Obj := { cls := Value.type "tuple", data := Data.seq #[] }
noncomputable def o86 (P : Params) : Obj := { cls := Value.none, data := Data.fields #[] }
noncomputable def o87 (P : Params) : Obj := { cls := Value.type "tuple", data := Data.seq #[Value.str (Str.ofString "self") 286] }
noncomputable def o88 (P : Params) : Obj := { cls := Value.type "tuple", data := Data.seq #[] }
noncomputable def o89 (P : Params) : Obj := { cls := Value.none, data := Data.func { name := Str.ofString "negated", qualname := Str.ofString "Decimal.negated", params := parOf (inCls (stAt 4) 4), body := .stmts (bodOf (inCls (stAt 4) 4)), scope := scoOf (inCls (stAt 4) 4), globals := 0, closure := [], defaults := Value.none, kwdefaults := Value.none } }
noncomputable def o90 (P : Params) : Obj := { cls := Value.type "code", data := Data.fields #[Value.str (Str.ofString "negated") 283, Value.str (Str.ofString "Decimal.negated") 284, Value.str (Str.ofString "/claim/cut.py") 285, Value.int 33 0, Value.int 1 0, Value.int 0 0, Value.int 0 0, Value.int 3 0, Value.ref 85, Value.bool Bool.true, Value.int 181 0, Value.ref 86, Value.none, Value.ref 87, Value.ref 88, Value.ref 89, Value.int 287 0, Value.int 33 0, Value.str (Str.ofString "/claim/cut.py") 288] }
noncomputable def o91 (P : Params) : Obj := { cls := Value.type "function", data := Data.func { name := Str.ofString "negated", qualname := Str.ofString "Decimal.negated", params := parOf (inCls (stAt 4) 4), body := .stmts (bodOf (inCls (stAt 4) 4)), scope := scoOf (inCls (stAt 4) 4), globals := 3, closure := [], defaults := Value.none, kwdefaults := Value.none, pyModule := Value.str (Str.ofString "paperhold.decimals") 236, code := Value.ref 90 } }
noncomputable def o92 (P : Params) : Obj := { cls := Value.type "tuple", data := Data.seq #[] }
noncomputable def o93 (P : Params) : Obj := { cls := Value.none, data := Data.fields #[] }
noncomputable def o94 (P : Params) : Obj := { cls := Value.type "tuple", data := Data.seq #[Value.str (Str.ofString "self") 293, Value.str (Str.ofString "other") 294] }
noncomputable def o95 (P : Params) : Obj := { cls := Value.type "tuple", data := Data.seq #[] }
noncomputable def o96 (P : Params) : Obj := { cls := Value.none, data := Data.func { name := Str.ofString "compared", qualname := Str.ofString "Decimal.compared", params := parOf (inCls (stAt 4) 5), body := .stmts (bodOf (inCls (stAt 4) 5)), scope := scoOf (inCls (stAt 4) 5), globals := 0, closure := [], defaults := Value.none, kwdefaults := Value.none } }
noncomputable def o97 (P : Params) : Obj := { cls := Value.type "code", data := Data.fields #[Value.str (Str.ofString "compared") 290, Value.str (Str.ofString "Decimal.compared") 291, Value.str (Str.ofString "/claim/cut.py") 292, Value.int 36 0, Value.int 2 0, Value.int 0 0, Value.int 0 0, Value.int 3 0, Value.ref 92, Value.bool Bool.true, Value.int 181 0, Value.ref 93, Value.none, Value.ref 94, Value.ref 95, Value.ref 96, Value.int 295 0, Value.int 36 0, Value.str (Str.ofString "/claim/cut.py") 296] }
noncomputable def o98 (P : Params) : Obj := { cls := Value.type "function", data := Data.func { name := Str.ofString "compared", qualname := Str.ofString "Decimal.compared", params := parOf (inCls (stAt 4) 5), body := .stmts (bodOf (inCls (stAt 4) 5)), scope := scoOf (inCls (stAt 4) 5), globals := 3, closure := [], defaults := Value.none, kwdefaults := Value.none, pyModule := Value.str (Str.ofString "paperhold.decimals") 236, code := Value.ref 97 } }
noncomputable def o99 (P : Params) : Obj := { cls := Value.type "tuple", data := Data.seq #[] }
noncomputable def o100 (P : Params) : Obj := { cls := Value.none, data := Data.fields #[] }
noncomputable def o101 (P : Params) : Obj := { cls := Value.type "tuple", data := Data.seq #[Value.str (Str.ofString "self") 301] }
noncomputable def o102 (P : Params) : Obj := { cls := Value.type "tuple", data := Data.seq #[] }
noncomputable def o103 (P : Params) : Obj := { cls := Value.none, data := Data.func { name := Str.ofString "is_whole", qualname := Str.ofString "Decimal.is_whole", params := parOf (inCls (stAt 4) 6), body := .stmts (bodOf (inCls (stAt 4) 6)), scope := scoOf (inCls (stAt 4) 6), globals := 0, closure := [], defaults := Value.none, kwdefaults := Value.none } }
noncomputable def o104 (P : Params) : Obj := { cls := Value.type "code", data := Data.fields #[Value.str (Str.ofString "is_whole") 298, Value.str (Str.ofString "Decimal.is_whole") 299, Value.str (Str.ofString "/claim/cut.py") 300, Value.int 39 0, Value.int 1 0, Value.int 0 0, Value.int 0 0, Value.int 3 0, Value.ref 99, Value.bool Bool.true, Value.int 181 0, Value.ref 100, Value.none, Value.ref 101, Value.ref 102, Value.ref 103, Value.int 302 0, Value.int 39 0, Value.str (Str.ofString "/claim/cut.py") 303] }
noncomputable def o105 (P : Params) : Obj := { cls := Value.type "function", data := Data.func { name := Str.ofString "is_whole", qualname := Str.ofString "Decimal.is_whole", params := parOf (inCls (stAt 4) 6), body := .stmts (bodOf (inCls (stAt 4) 6)), scope := scoOf (inCls (stAt 4) 6), globals := 3, closure := [], defaults := Value.none, kwdefaults := Value.none, pyModule := Value.str (Str.ofString "paperhold.decimals") 236, code := Value.ref 104 } }
noncomputable def o106 (P : Params) : Obj := { cls := Value.type "tuple", data := Data.seq #[] }
noncomputable def o107 (P : Params) : Obj := { cls := Value.none, data := Data.fields #[] }
noncomputable def o108 (P : Params) : Obj := { cls := Value.type "tuple", data := Data.seq #[Value.str (Str.ofString "self") 308] }
noncomputable def o109 (P : Params) : Obj := { cls := Value.type "tuple", data := Data.seq #[] }
noncomputable def o110 (P : Params) : Obj := { cls := Value.none, data := Data.func { name := Str.ofString "floor", qualname := Str.ofString "Decimal.floor", params := parOf (inCls (stAt 4) 7), body := .stmts (bodOf (inCls (stAt 4) 7)), scope := scoOf (inCls (stAt 4) 7), globals := 0, closure := [], defaults := Value.none, kwdefaults := Value.none } }
noncomputable def o111 (P : Params) : Obj := { cls := Value.type "code", data := Data.fields #[Value.str (Str.ofString "floor") 305, Value.str (Str.ofString "Decimal.floor") 306, Value.str (Str.ofString "/claim/cut.py") 307, Value.int 42 0, Value.int 1 0, Value.int 0 0, Value.int 0 0, Value.int 3 0, Value.ref 106, Value.bool Bool.true, Value.int 181 0, Value.ref 107, Value.none, Value.ref 108, Value.ref 109, Value.ref 110, Value.int 309 0, Value.int 42 0, Value.str (Str.ofString "/claim/cut.py") 310] }
noncomputable def o112 (P : Params) : Obj := { cls := Value.type "function", data := Data.func { name := Str.ofString "floor", qualname := Str.ofString "Decimal.floor", params := parOf (inCls (stAt 4) 7), body := .stmts (bodOf (inCls (stAt 4) 7)), scope := scoOf (inCls (stAt 4) 7), globals := 3, closure := [], defaults := Value.none, kwdefaults := Value.none, pyModule := Value.str (Str.ofString "paperhold.decimals") 236, code := Value.ref 111 } }
noncomputable def o113 (P : Params) : Obj := { cls := Value.type "tuple", data := Data.seq #[] }
noncomputable def o114 (P : Params) : Obj := { cls := Value.none, data := Data.fields #[] }
noncomputable def o115 (P : Params) : Obj := { cls := Value.type "tuple", data := Data.seq #[Value.str (Str.ofString "self") 315, Value.str (Str.ofString "places") 316] }
noncomputable def o116 (P : Params) : Obj := { cls := Value.type "tuple", data := Data.seq #[] }
noncomputable def o117 (P : Params) : Obj := { cls := Value.none, data := Data.func { name := Str.ofString "rounded", qualname := Str.ofString "Decimal.rounded", params := parOf (inCls (stAt 4) 8), body := .stmts (bodOf (inCls (stAt 4) 8)), scope := scoOf (inCls (stAt 4) 8), globals := 0, closure := [], defaults := Value.none, kwdefaults := Value.none } }
noncomputable def o118 (P : Params) : Obj := { cls := Value.type "code", data := Data.fields #[Value.str (Str.ofString "rounded") 312, Value.str (Str.ofString "Decimal.rounded") 313, Value.str (Str.ofString "/claim/cut.py") 314, Value.int 45 0, Value.int 2 0, Value.int 0 0, Value.int 0 0, Value.int 3 0, Value.ref 113, Value.bool Bool.true, Value.int 181 0, Value.ref 114, Value.none, Value.ref 115, Value.ref 116, Value.ref 117, Value.int 317 0, Value.int 45 0, Value.str (Str.ofString "/claim/cut.py") 318] }
noncomputable def o119 (P : Params) : Obj := { cls := Value.type "function", data := Data.func { name := Str.ofString "rounded", qualname := Str.ofString "Decimal.rounded", params := parOf (inCls (stAt 4) 8), body := .stmts (bodOf (inCls (stAt 4) 8)), scope := scoOf (inCls (stAt 4) 8), globals := 3, closure := [], defaults := Value.none, kwdefaults := Value.none, pyModule := Value.str (Str.ofString "paperhold.decimals") 236, code := Value.ref 118 } }
noncomputable def o120 (P : Params) : Obj := { cls := Value.type "tuple", data := Data.seq #[] }
noncomputable def o121 (P : Params) : Obj := { cls := Value.none, data := Data.fields #[] }
noncomputable def o122 (P : Params) : Obj := { cls := Value.type "tuple", data := Data.seq #[Value.str (Str.ofString "self") 323] }
noncomputable def o123 (P : Params) : Obj := { cls := Value.type "tuple", data := Data.seq #[] }
noncomputable def o124 (P : Params) : Obj := { cls := Value.none, data := Data.func { name := Str.ofString "told", qualname := Str.ofString "Decimal.told", params := parOf (inCls (stAt 4) 9), body := .stmts (bodOf (inCls (stAt 4) 9)), scope := scoOf (inCls (stAt 4) 9), globals := 0, closure := [], defaults := Value.none, kwdefaults := Value.none } }
noncomputable def o125 (P : Params) : Obj := { cls := Value.type "code", data := Data.fields #[Value.str (Str.ofString "told") 320, Value.str (Str.ofString "Decimal.told") 321, Value.str (Str.ofString "/claim/cut.py") 322, Value.int 48 0, Value.int 1 0, Value.int 0 0, Value.int 0 0, Value.int 3 0, Value.ref 120, Value.bool Bool.true, Value.int 181 0, Value.ref 121, Value.none, Value.ref 122, Value.ref 123, Value.ref 124, Value.int 324 0, Value.int 48 0, Value.str (Str.ofString "/claim/cut.py") 325] }
noncomputable def o126 (P : Params) : Obj := { cls := Value.type "function", data := Data.func { name := Str.ofString "told", qualname := Str.ofString "Decimal.told", params := parOf (inCls (stAt 4) 9), body := .stmts (bodOf (inCls (stAt 4) 9)), scope := scoOf (inCls (stAt 4) 9), globals := 3, closure := [], defaults := Value.none, kwdefaults := Value.none, pyModule := Value.str (Str.ofString "paperhold.decimals") 236, code := Value.ref 125 } }
noncomputable def o127 (P : Params) : Obj := { cls := Value.type "tuple", data := Data.seq #[] }
noncomputable def o128 (P : Params) : Obj := { cls := Value.none, data := Data.fields #[] }
noncomputable def o129 (P : Params) : Obj := { cls := Value.type "tuple", data := Data.seq #[Value.str (Str.ofString "self") 330, Value.str (Str.ofString "numerals") 331] }
noncomputable def o130 (P : Params) : Obj := { cls := Value.type "tuple", data := Data.seq #[] }
noncomputable def o131 (P : Params) : Obj := { cls := Value.none, data := Data.func { name := Str.ofString "text", qualname := Str.ofString "Decimal.text", params := parOf (inCls (stAt 4) 10), body := .stmts (bodOf (inCls (stAt 4) 10)), scope := scoOf (inCls (stAt 4) 10), globals := 0, closure := [], defaults := Value.none, kwdefaults := Value.none } }
noncomputable def o132 (P : Params) : Obj := { cls := Value.type "code", data := Data.fields #[Value.str (Str.ofString "text") 327, Value.str (Str.ofString "Decimal.text") 328, Value.str (Str.ofString "/claim/cut.py") 329, Value.int 51 0, Value.int 1 0, Value.int 0 0, Value.int 0 0, Value.int 3 0, Value.ref 127, Value.bool Bool.true, Value.int 181 0, Value.ref 128, Value.none, Value.ref 129, Value.ref 130, Value.ref 131, Value.int 332 0, Value.int 51 0, Value.str (Str.ofString "/claim/cut.py") 333] }
noncomputable def o133 (P : Params) : Obj := { cls := Value.type "function", data := Data.func { name := Str.ofString "text", qualname := Str.ofString "Decimal.text", params := parOf (inCls (stAt 4) 10), body := .stmts (bodOf (inCls (stAt 4) 10)), scope := scoOf (inCls (stAt 4) 10), globals := 3, closure := [], defaults := Value.none, kwdefaults := Value.none, pyModule := Value.str (Str.ofString "paperhold.decimals") 236, code := Value.ref 132 } }
noncomputable def o134 (P : Params) : Obj := { cls := Value.type "tuple", data := Data.seq #[] }
noncomputable def o135 (P : Params) : Obj := { cls := Value.none, data := Data.fields #[] }
noncomputable def o136 (P : Params) : Obj := { cls := Value.type "tuple", data := Data.seq #[Value.str (Str.ofString "self") 338] }
noncomputable def o137 (P : Params) : Obj := { cls := Value.type "tuple", data := Data.seq #[] }
noncomputable def o138 (P : Params) : Obj := { cls := Value.none, data := Data.func { name := Str.ofString "least_text", qualname := Str.ofString "Decimal.least_text", params := parOf (inCls (stAt 4) 11), body := .stmts (bodOf (inCls (stAt 4) 11)), scope := scoOf (inCls (stAt 4) 11), globals := 0, closure := [], defaults := Value.none, kwdefaults := Value.none } }
noncomputable def o139 (P : Params) : Obj := { cls := Value.type "code", data := Data.fields #[Value.str (Str.ofString "least_text") 335, Value.str (Str.ofString "Decimal.least_text") 336, Value.str (Str.ofString "/claim/cut.py") 337, Value.int 58 0, Value.int 1 0, Value.int 0 0, Value.int 0 0, Value.int 3 0, Value.ref 134, Value.bool Bool.true, Value.int 181 0, Value.ref 135, Value.none, Value.ref 136, Value.ref 137, Value.ref 138, Value.int 339 0, Value.int 58 0, Value.str (Str.ofString "/claim/cut.py") 340] }
noncomputable def o140 (P : Params) : Obj := { cls := Value.type "function", data := Data.func { name := Str.ofString "least_text", qualname := Str.ofString "Decimal.least_text", params := parOf (inCls (stAt 4) 11), body := .stmts (bodOf (inCls (stAt 4) 11)), scope := scoOf (inCls (stAt 4) 11), globals := 3, closure := [], defaults := Value.none, kwdefaults := Value.none, pyModule := Value.str (Str.ofString "paperhold.decimals") 236, code := Value.ref 139 } }
noncomputable def o141 (P : Params) : Obj := { cls := Value.type "tuple", data := Data.seq #[Value.str (Str.ofString "places") 342, Value.str (Str.ofString "top") 343] }
noncomputable def o142 (P : Params) : Obj := { cls := Value.type "dict", data := Data.dict #[{ hash := PyData.keyHash P (Str.ofString "__module__"), key := Value.str (Str.ofString "__module__") 245, val := Value.str (Str.ofString "paperhold.decimals") 236 }, { hash := PyData.keyHash P (Str.ofString "__firstlineno__"), key := Value.str (Str.ofString "__firstlineno__") 249, val := Value.int 15 248 }, { hash := PyData.keyHash P (Str.ofString "__init__"), key := Value.str (Str.ofString "__init__") 258, val := Value.ref 63 }, { hash := PyData.keyHash P (Str.ofString "plus"), key := Value.str (Str.ofString "plus") 266, val := Value.ref 70 }, { hash := PyData.keyHash P (Str.ofString "minus"), key := Value.str (Str.ofString "minus") 274, val := Value.ref 77 }, { hash := PyData.keyHash P (Str.ofString "times"), key := Value.str (Str.ofString "times") 282, val := Value.ref 84 }, { hash := PyData.keyHash P (Str.ofString "negated"), key := Value.str (Str.ofString "negated") 289, val := Value.ref 91 }, { hash := PyData.keyHash P (Str.ofString "compared"), key := Value.str (Str.ofString "compared") 297, val := Value.ref 98 }, { hash := PyData.keyHash P (Str.ofString "is_whole"), key := Value.str (Str.ofString "is_whole") 304, val := Value.ref 105 }, { hash := PyData.keyHash P (Str.ofString "floor"), key := Value.str (Str.ofString "floor") 311, val := Value.ref 112 }, { hash := PyData.keyHash P (Str.ofString "rounded"), key := Value.str (Str.ofString "rounded") 319, val := Value.ref 119 }, { hash := PyData.keyHash P (Str.ofString "told"), key := Value.str (Str.ofString "told") 326, val := Value.ref 126 }, { hash := PyData.keyHash P (Str.ofString "text"), key := Value.str (Str.ofString "text") 334, val := Value.ref 133 }, { hash := PyData.keyHash P (Str.ofString "least_text"), key := Value.str (Str.ofString "least_text") 341, val := Value.ref 140 }, { hash := PyData.keyHash P (Str.ofString "__static_attributes__"), key := Value.str (Str.ofString "__static_attributes__") 344, val := Value.ref 141 }, { hash := PyData.keyHash P (Str.ofString "__dict__"), key := Value.str (Str.ofString "__dict__") 346, val := Value.ref 144 }, { hash := PyData.keyHash P (Str.ofString "__weakref__"), key := Value.str (Str.ofString "__weakref__") 348, val := Value.ref 145 }, { hash := PyData.keyHash P (Str.ofString "__doc__"), key := Value.str (Str.ofString "__doc__") 349, val := Value.none }] 4 }
noncomputable def o143 (P : Params) : Obj := { cls := Value.type "type", data := Data.cls { name := Str.ofString "Decimal", bases := [Value.type "object"], mro := [Value.ref 143, Value.type "object"], ns := 142, qualname := Str.ofString "Decimal" }, slots := #[Option.none, Option.none, Option.some (Value.str (Str.ofString "Decimal") 238), Option.some (Value.str (Str.ofString "Decimal") 246), Option.some (Value.builtin "object.__new__"), Option.some (Value.bool Bool.true)] }
noncomputable def o144 (P : Params) : Obj := { cls := Value.type "getset_descriptor", data := Data.fields #[Value.str (Str.ofString "__dict__") 345, Value.ref 143, Value.builtin "function.__dict__", Value.builtin "function.__dict__#set"] }
noncomputable def o145 (P : Params) : Obj := { cls := Value.type "getset_descriptor", data := Data.fields #[Value.str (Str.ofString "__weakref__") 347, Value.ref 143, Value.builtin "ExceptionGroup.__weakref__", Value.none] }
noncomputable def o146 (P : Params) : Obj := { cls := Value.type "super", data := Data.fields #[Value.ref 143, Value.ref 143, Value.ref 143] }
noncomputable def o147 (P : Params) : Obj := { cls := Value.type "builtin_function_or_method", data := Data.fields #[Value.builtin "object.__init_subclass__", Value.ref 143] }
noncomputable def o3v12 (P : Params) : Obj := { cls := Value.type "dict", data := Data.dict #[{ hash := PyData.keyHash P (Str.ofString "__name__"), key := Value.str (Str.ofString "__name__") 165, val := Value.str (Str.ofString "paperhold.objects") 359 }, { hash := PyData.keyHash P (Str.ofString "__doc__"), key := Value.str (Str.ofString "__doc__") 166, val := Value.none }, { hash := PyData.keyHash P (Str.ofString "__package__"), key := Value.str (Str.ofString "__package__") 167, val := Value.none }, { hash := PyData.keyHash P (Str.ofString "__loader__"), key := Value.str (Str.ofString "__loader__") 168, val := Value.builtin "__main__.__loader__#opaque" }, { hash := PyData.keyHash P (Str.ofString "__spec__"), key := Value.str (Str.ofString "__spec__") 169, val := Value.none }, { hash := PyData.keyHash P (Str.ofString "__annotations__"), key := Value.str (Str.ofString "__annotations__") 170, val := Value.ref 6 }, { hash := PyData.keyHash P (Str.ofString "__builtins__"), key := Value.str (Str.ofString "__builtins__") 171, val := Value.ref 4 }, { hash := PyData.keyHash P (Str.ofString "__file__"), key := Value.str (Str.ofString "__file__") 173, val := Value.str (Str.ofString "/claim/cut.py") 172 }, { hash := PyData.keyHash P (Str.ofString "__cached__"), key := Value.str (Str.ofString "__cached__") 174, val := Value.none }, { hash := PyData.keyHash P (Str.ofString "_wall"), key := Value.str (Str.ofString "_wall") 193, val := Value.ref 21 }, { hash := PyData.keyHash P (Str.ofString "PaperError"), key := Value.str (Str.ofString "PaperError") 235, val := Value.ref 46 }, { hash := PyData.keyHash P (Str.ofString "Decimal"), key := Value.str (Str.ofString "Decimal") 351, val := Value.ref 143 }, { hash := PyData.keyHash P (Str.ofString "sign_text"), key := Value.str (Str.ofString "sign_text") 358, val := Value.ref 154 }, { hash := PyData.keyHash P (Str.ofString "MOST_HOPS"), key := Value.str (Str.ofString "MOST_HOPS") 362, val := Value.int 30 361 }, { hash := PyData.keyHash P (Str.ofString "Name"), key := Value.str (Str.ofString "Name") 391, val := Value.ref 171 }, { hash := PyData.keyHash P (Str.ofString "String"), key := Value.str (Str.ofString "String") 422, val := Value.ref 193 }, { hash := PyData.keyHash P (Str.ofString "Stream"), key := Value.str (Str.ofString "Stream") 453, val := Value.ref 214 }] 17 }
noncomputable def o12v12 (P : Params) : Obj := { cls := Value.none, data := Data.fields #[Value.int 1 0, Value.int 0 0, Value.ref 20, Value.int 5 0, Value.int 0 0, Value.ref 27, Value.int 15 0, Value.int 0 0, Value.ref 55, Value.int 60 0, Value.int 0 0, Value.ref 153, Value.int 64 0, Value.int 0 0, Value.ref 160, Value.int 68 0, Value.int 0 0, Value.ref 181, Value.int 73 0, Value.int 0 0, Value.ref 203] }
noncomputable def o148 (P : Params) : Obj := { cls := Value.type "tuple", data := Data.seq #[] }
noncomputable def o149 (P : Params) : Obj := { cls := Value.none, data := Data.fields #[] }
noncomputable def o150 (P : Params) : Obj := { cls := Value.type "tuple", data := Data.seq #[Value.str (Str.ofString "number") 355] }
noncomputable def o151 (P : Params) : Obj := { cls := Value.type "tuple", data := Data.seq #[] }
noncomputable def o152 (P : Params) : Obj := { cls := Value.none, data := Data.func { name := Str.ofString "sign_text", qualname := Str.ofString "sign_text", params := parOf (stAt 5), body := .stmts (bodOf (stAt 5)), scope := scoOf (stAt 5), globals := 0, closure := [], defaults := Value.none, kwdefaults := Value.none } }
noncomputable def o153 (P : Params) : Obj := { cls := Value.type "code", data := Data.fields #[Value.str (Str.ofString "sign_text") 352, Value.str (Str.ofString "sign_text") 353, Value.str (Str.ofString "/claim/cut.py") 354, Value.int 60 0, Value.int 1 0, Value.int 0 0, Value.int 0 0, Value.int 3 0, Value.ref 148, Value.bool Bool.true, Value.int 181 0, Value.ref 149, Value.none, Value.ref 150, Value.ref 151, Value.ref 152, Value.int 356 0, Value.int 60 0, Value.str (Str.ofString "/claim/cut.py") 357] }
noncomputable def o154 (P : Params) : Obj := { cls := Value.type "function", data := Data.func { name := Str.ofString "sign_text", qualname := Str.ofString "sign_text", params := parOf (stAt 5), body := .stmts (bodOf (stAt 5)), scope := scoOf (stAt 5), globals := 3, closure := [], defaults := Value.none, kwdefaults := Value.none, pyModule := Value.str (Str.ofString "paperhold.decimals") 236, code := Value.ref 153 } }
noncomputable def o155 (P : Params) : Obj := { cls := Value.type "tuple", data := Data.seq #[] }
noncomputable def o156 (P : Params) : Obj := { cls := Value.type "builtin_function_or_method", data := Data.fields #[Value.builtin "type.__prepare__", Value.type "type"] }
noncomputable def o157 (P : Params) : Obj := { cls := Value.type "dict", data := Data.dict #[{ hash := PyData.keyHash P (Str.ofString "__module__"), key := Value.str (Str.ofString "__module__") 370, val := Value.str (Str.ofString "paperhold.objects") 359 }, { hash := PyData.keyHash P (Str.ofString "__qualname__"), key := Value.str (Str.ofString "__qualname__") 372, val := Value.str (Str.ofString "Name") 371 }, { hash := PyData.keyHash P (Str.ofString "__firstlineno__"), key := Value.str (Str.ofString "__firstlineno__") 374, val := Value.int 64 373 }, { hash := PyData.keyHash P (Str.ofString "__init__"), key := Value.str (Str.ofString "__init__") 382, val := Value.ref 168 }, { hash := PyData.keyHash P (Str.ofString "__static_attributes__"), key := Value.str (Str.ofString "__static_attributes__") 384, val := Value.ref 169 }] 5 }
noncomputable def o158 (P : Params) : Obj := { cls := Value.type "tuple", data := Data.seq #[] }
noncomputable def o159 (P : Params) : Obj := { cls := Value.none, data := Data.fields #[Value.int 66 0, Value.int 4 0, Value.ref 167] }
noncomputable def o160 (P : Params) : Obj := { cls := Value.type "code", data := Data.fields #[Value.str (Str.ofString "Name") 365, Value.str (Str.ofString "Name") 366, Value.str (Str.ofString "/claim/cut.py") 367, Value.int 64 0, Value.int 0 0, Value.int 0 0, Value.int 0 0, Value.int 0 0, Value.ref 158, Value.bool Bool.false, Value.int 181 0, Value.ref 159, Value.none, Value.none, Value.none, Value.none, Value.int 368 0, Value.int 64 0, Value.str (Str.ofString "/claim/cut.py") 369] }
noncomputable def o161 (P : Params) : Obj := { cls := Value.type "frame", slots := #[Option.some (Value.ref 160), Option.some (Value.ref 3), Option.some (Value.ref 157), Option.none, Option.some (Value.str (Str.ofString "paperhold.objects") 359), Option.none, Option.some (Value.ref 0)] }
noncomputable def o162 (P : Params) : Obj := { cls := Value.type "tuple", data := Data.seq #[] }
noncomputable def o163 (P : Params) : Obj := { cls := Value.none, data := Data.fields #[] }
noncomputable def o164 (P : Params) : Obj := { cls := Value.type "tuple", data := Data.seq #[Value.str (Str.ofString "self") 378, Value.str (Str.ofString "text") 379] }
noncomputable def o165 (P : Params) : Obj := { cls := Value.type "tuple", data := Data.seq #[] }
noncomputable def o166 (P : Params) : Obj := { cls := Value.none, data := Data.func { name := Str.ofString "__init__", qualname := Str.ofString "Name.__init__", params := parOf (inCls (stAt 8) 0), body := .stmts (bodOf (inCls (stAt 8) 0)), scope := scoOf (inCls (stAt 8) 0), globals := 0, closure := [], defaults := Value.none, kwdefaults := Value.none } }
noncomputable def o167 (P : Params) : Obj := { cls := Value.type "code", data := Data.fields #[Value.str (Str.ofString "__init__") 375, Value.str (Str.ofString "Name.__init__") 376, Value.str (Str.ofString "/claim/cut.py") 377, Value.int 66 0, Value.int 2 0, Value.int 0 0, Value.int 0 0, Value.int 3 0, Value.ref 162, Value.bool Bool.true, Value.int 181 0, Value.ref 163, Value.none, Value.ref 164, Value.ref 165, Value.ref 166, Value.int 380 0, Value.int 66 0, Value.str (Str.ofString "/claim/cut.py") 381] }
noncomputable def o168 (P : Params) : Obj := { cls := Value.type "function", data := Data.func { name := Str.ofString "__init__", qualname := Str.ofString "Name.__init__", params := parOf (inCls (stAt 8) 0), body := .stmts (bodOf (inCls (stAt 8) 0)), scope := scoOf (inCls (stAt 8) 0), globals := 3, closure := [], defaults := Value.none, kwdefaults := Value.none, pyModule := Value.str (Str.ofString "paperhold.objects") 359, code := Value.ref 167 } }
noncomputable def o169 (P : Params) : Obj := { cls := Value.type "tuple", data := Data.seq #[Value.str (Str.ofString "text") 383] }
noncomputable def o170 (P : Params) : Obj := { cls := Value.type "dict", data := Data.dict #[{ hash := PyData.keyHash P (Str.ofString "__module__"), key := Value.str (Str.ofString "__module__") 370, val := Value.str (Str.ofString "paperhold.objects") 359 }, { hash := PyData.keyHash P (Str.ofString "__firstlineno__"), key := Value.str (Str.ofString "__firstlineno__") 374, val := Value.int 64 373 }, { hash := PyData.keyHash P (Str.ofString "__init__"), key := Value.str (Str.ofString "__init__") 382, val := Value.ref 168 }, { hash := PyData.keyHash P (Str.ofString "__static_attributes__"), key := Value.str (Str.ofString "__static_attributes__") 384, val := Value.ref 169 }, { hash := PyData.keyHash P (Str.ofString "__dict__"), key := Value.str (Str.ofString "__dict__") 386, val := Value.ref 172 }, { hash := PyData.keyHash P (Str.ofString "__weakref__"), key := Value.str (Str.ofString "__weakref__") 388, val := Value.ref 173 }, { hash := PyData.keyHash P (Str.ofString "__doc__"), key := Value.str (Str.ofString "__doc__") 389, val := Value.none }] 4 }
noncomputable def o171 (P : Params) : Obj := { cls := Value.type "type", data := Data.cls { name := Str.ofString "Name", bases := [Value.type "object"], mro := [Value.ref 171, Value.type "object"], ns := 170, qualname := Str.ofString "Name" }, slots := #[Option.none, Option.none, Option.some (Value.str (Str.ofString "Name") 363), Option.some (Value.str (Str.ofString "Name") 371), Option.some (Value.builtin "object.__new__"), Option.some (Value.bool Bool.true)] }
noncomputable def o172 (P : Params) : Obj := { cls := Value.type "getset_descriptor", data := Data.fields #[Value.str (Str.ofString "__dict__") 385, Value.ref 171, Value.builtin "function.__dict__", Value.builtin "function.__dict__#set"] }
noncomputable def o173 (P : Params) : Obj := { cls := Value.type "getset_descriptor", data := Data.fields #[Value.str (Str.ofString "__weakref__") 387, Value.ref 171, Value.builtin "ExceptionGroup.__weakref__", Value.none] }
noncomputable def o174 (P : Params) : Obj := { cls := Value.type "super", data := Data.fields #[Value.ref 171, Value.ref 171, Value.ref 171] }
noncomputable def o175 (P : Params) : Obj := { cls := Value.type "builtin_function_or_method", data := Data.fields #[Value.builtin "object.__init_subclass__", Value.ref 171] }
noncomputable def o176 (P : Params) : Obj := { cls := Value.type "tuple", data := Data.seq #[] }
noncomputable def o177 (P : Params) : Obj := { cls := Value.type "builtin_function_or_method", data := Data.fields #[Value.builtin "type.__prepare__", Value.type "type"] }
noncomputable def o178 (P : Params) : Obj := { cls := Value.type "dict", data := Data.dict #[{ hash := PyData.keyHash P (Str.ofString "__module__"), key := Value.str (Str.ofString "__module__") 399, val := Value.str (Str.ofString "paperhold.objects") 359 }, { hash := PyData.keyHash P (Str.ofString "__qualname__"), key := Value.str (Str.ofString "__qualname__") 401, val := Value.str (Str.ofString "String") 400 }, { hash := PyData.keyHash P (Str.ofString "__firstlineno__"), key := Value.str (Str.ofString "__firstlineno__") 403, val := Value.int 68 402 }, { hash := PyData.keyHash P (Str.ofString "__init__"), key := Value.str (Str.ofString "__init__") 412, val := Value.ref 190 }, { hash := PyData.keyHash P (Str.ofString "__static_attributes__"), key := Value.str (Str.ofString "__static_attributes__") 415, val := Value.ref 191 }] 5 }
noncomputable def o179 (P : Params) : Obj := { cls := Value.type "tuple", data := Data.seq #[] }
noncomputable def o180 (P : Params) : Obj := { cls := Value.none, data := Data.fields #[Value.int 70 0, Value.int 4 0, Value.ref 189] }
noncomputable def o181 (P : Params) : Obj := { cls := Value.type "code", data := Data.fields #[Value.str (Str.ofString "String") 394, Value.str (Str.ofString "String") 395, Value.str (Str.ofString "/claim/cut.py") 396, Value.int 68 0, Value.int 0 0, Value.int 0 0, Value.int 0 0, Value.int 0 0, Value.ref 179, Value.bool Bool.false, Value.int 181 0, Value.ref 180, Value.none, Value.none, Value.none, Value.none, Value.int 397 0, Value.int 68 0, Value.str (Str.ofString "/claim/cut.py") 398] }
noncomputable def o182 (P : Params) : Obj := { cls := Value.type "frame", slots := #[Option.some (Value.ref 181), Option.some (Value.ref 3), Option.some (Value.ref 178), Option.none, Option.some (Value.str (Str.ofString "paperhold.objects") 359), Option.none, Option.some (Value.ref 0)] }
noncomputable def o183 (P : Params) : Obj := { cls := Value.type "tuple", data := Data.seq #[Value.bool Bool.false] }
noncomputable def o184 (P : Params) : Obj := { cls := Value.type "tuple", data := Data.seq #[] }
noncomputable def o185 (P : Params) : Obj := { cls := Value.none, data := Data.fields #[] }
noncomputable def o186 (P : Params) : Obj := { cls := Value.type "tuple", data := Data.seq #[Value.str (Str.ofString "self") 407, Value.str (Str.ofString "octets") 408, Value.str (Str.ofString "is_hex") 409] }
noncomputable def o187 (P : Params) : Obj := { cls := Value.type "tuple", data := Data.seq #[] }
noncomputable def o188 (P : Params) : Obj := { cls := Value.none, data := Data.func { name := Str.ofString "__init__", qualname := Str.ofString "String.__init__", params := parOf (inCls (stAt 9) 0), body := .stmts (bodOf (inCls (stAt 9) 0)), scope := scoOf (inCls (stAt 9) 0), globals := 0, closure := [], defaults := Value.none, kwdefaults := Value.none } }
noncomputable def o189 (P : Params) : Obj := { cls := Value.type "code", data := Data.fields #[Value.str (Str.ofString "__init__") 404, Value.str (Str.ofString "String.__init__") 405, Value.str (Str.ofString "/claim/cut.py") 406, Value.int 70 0, Value.int 3 0, Value.int 0 0, Value.int 0 0, Value.int 3 0, Value.ref 184, Value.bool Bool.true, Value.int 181 0, Value.ref 185, Value.none, Value.ref 186, Value.ref 187, Value.ref 188, Value.int 410 0, Value.int 70 0, Value.str (Str.ofString "/claim/cut.py") 411] }
noncomputable def o190 (P : Params) : Obj := { cls := Value.type "function", data := Data.func { name := Str.ofString "__init__", qualname := Str.ofString "String.__init__", params := parOf (inCls (stAt 9) 0), body := .stmts (bodOf (inCls (stAt 9) 0)), scope := scoOf (inCls (stAt 9) 0), globals := 3, closure := [], defaults := Value.ref 183, kwdefaults := Value.none, pyModule := Value.str (Str.ofString "paperhold.objects") 359, code := Value.ref 189 } }
noncomputable def o191 (P : Params) : Obj := { cls := Value.type "tuple", data := Data.seq #[Value.str (Str.ofString "is_hex") 413, Value.str (Str.ofString "octets") 414] }
noncomputable def o192 (P : Params) : Obj := { cls := Value.type "dict", data := Data.dict #[{ hash := PyData.keyHash P (Str.ofString "__module__"), key := Value.str (Str.ofString "__module__") 399, val := Value.str (Str.ofString "paperhold.objects") 359 }, { hash := PyData.keyHash P (Str.ofString "__firstlineno__"), key := Value.str (Str.ofString "__firstlineno__") 403, val := Value.int 68 402 }, { hash := PyData.keyHash P (Str.ofString "__init__"), key := Value.str (Str.ofString "__init__") 412, val := Value.ref 190 }, { hash := PyData.keyHash P (Str.ofString "__static_attributes__"), key := Value.str (Str.ofString "__static_attributes__") 415, val := Value.ref 191 }, { hash := PyData.keyHash P (Str.ofString "__dict__"), key := Value.str (Str.ofString "__dict__") 417, val := Value.ref 194 }, { hash := PyData.keyHash P (Str.ofString "__weakref__"), key := Value.str (Str.ofString "__weakref__") 419, val := Value.ref 195 }, { hash := PyData.keyHash P (Str.ofString "__doc__"), key := Value.str (Str.ofString "__doc__") 420, val := Value.none }] 4 }
noncomputable def o193 (P : Params) : Obj := { cls := Value.type "type", data := Data.cls { name := Str.ofString "String", bases := [Value.type "object"], mro := [Value.ref 193, Value.type "object"], ns := 192, qualname := Str.ofString "String" }, slots := #[Option.none, Option.none, Option.some (Value.str (Str.ofString "String") 392), Option.some (Value.str (Str.ofString "String") 400), Option.some (Value.builtin "object.__new__"), Option.some (Value.bool Bool.true)] }
noncomputable def o194 (P : Params) : Obj := { cls := Value.type "getset_descriptor", data := Data.fields #[Value.str (Str.ofString "__dict__") 416, Value.ref 193, Value.builtin "function.__dict__", Value.builtin "function.__dict__#set"] }
noncomputable def o195 (P : Params) : Obj := { cls := Value.type "getset_descriptor", data := Data.fields #[Value.str (Str.ofString "__weakref__") 418, Value.ref 193, Value.builtin "ExceptionGroup.__weakref__", Value.none] }
noncomputable def o196 (P : Params) : Obj := { cls := Value.type "super", data := Data.fields #[Value.ref 193, Value.ref 193, Value.ref 193] }
noncomputable def o197 (P : Params) : Obj := { cls := Value.type "builtin_function_or_method", data := Data.fields #[Value.builtin "object.__init_subclass__", Value.ref 193] }
noncomputable def o198 (P : Params) : Obj := { cls := Value.type "tuple", data := Data.seq #[] }
noncomputable def o199 (P : Params) : Obj := { cls := Value.type "builtin_function_or_method", data := Data.fields #[Value.builtin "type.__prepare__", Value.type "type"] }
noncomputable def o200 (P : Params) : Obj := { cls := Value.type "dict", data := Data.dict #[{ hash := PyData.keyHash P (Str.ofString "__module__"), key := Value.str (Str.ofString "__module__") 430, val := Value.str (Str.ofString "paperhold.objects") 359 }, { hash := PyData.keyHash P (Str.ofString "__qualname__"), key := Value.str (Str.ofString "__qualname__") 432, val := Value.str (Str.ofString "Stream") 431 }, { hash := PyData.keyHash P (Str.ofString "__firstlineno__"), key := Value.str (Str.ofString "__firstlineno__") 434, val := Value.int 73 433 }, { hash := PyData.keyHash P (Str.ofString "__init__"), key := Value.str (Str.ofString "__init__") 443, val := Value.ref 211 }, { hash := PyData.keyHash P (Str.ofString "__static_attributes__"), key := Value.str (Str.ofString "__static_attributes__") 446, val := Value.ref 212 }] 5 }
noncomputable def o201 (P : Params) : Obj := { cls := Value.type "tuple", data := Data.seq #[] }
noncomputable def o202 (P : Params) : Obj := { cls := Value.none, data := Data.fields #[Value.int 75 0, Value.int 4 0, Value.ref 210] }
noncomputable def o203 (P : Params) : Obj := { cls := Value.type "code", data := Data.fields #[Value.str (Str.ofString "Stream") 425, Value.str (Str.ofString "Stream") 426, Value.str (Str.ofString "/claim/cut.py") 427, Value.int 73 0, Value.int 0 0, Value.int 0 0, Value.int 0 0, Value.int 0 0, Value.ref 201, Value.bool Bool.false, Value.int 181 0, Value.ref 202, Value.none, Value.none, Value.none, Value.none, Value.int 428 0, Value.int 73 0, Value.str (Str.ofString "/claim/cut.py") 429] }
noncomputable def o204 (P : Params) : Obj := { cls := Value.type "frame", slots := #[Option.some (Value.ref 203), Option.some (Value.ref 3), Option.some (Value.ref 200), Option.none, Option.some (Value.str (Str.ofString "paperhold.objects") 359), Option.none, Option.some (Value.ref 0)] }
noncomputable def o205 (P : Params) : Obj := { cls := Value.type "tuple", data := Data.seq #[] }
noncomputable def o206 (P : Params) : Obj := { cls := Value.none, data := Data.fields #[] }
noncomputable def o207 (P : Params) : Obj := { cls := Value.type "tuple", data := Data.seq #[Value.str (Str.ofString "self") 438, Value.str (Str.ofString "head") 439, Value.str (Str.ofString "octets") 440] }
noncomputable def o208 (P : Params) : Obj := { cls := Value.type "tuple", data := Data.seq #[] }
noncomputable def o209 (P : Params) : Obj := { cls := Value.none, data := Data.func { name := Str.ofString "__init__", qualname := Str.ofString "Stream.__init__", params := parOf (inCls (stAt 10) 0), body := .stmts (bodOf (inCls (stAt 10) 0)), scope := scoOf (inCls (stAt 10) 0), globals := 0, closure := [], defaults := Value.none, kwdefaults := Value.none } }
noncomputable def o210 (P : Params) : Obj := { cls := Value.type "code", data := Data.fields #[Value.str (Str.ofString "__init__") 435, Value.str (Str.ofString "Stream.__init__") 436, Value.str (Str.ofString "/claim/cut.py") 437, Value.int 75 0, Value.int 3 0, Value.int 0 0, Value.int 0 0, Value.int 3 0, Value.ref 205, Value.bool Bool.true, Value.int 181 0, Value.ref 206, Value.none, Value.ref 207, Value.ref 208, Value.ref 209, Value.int 441 0, Value.int 75 0, Value.str (Str.ofString "/claim/cut.py") 442] }
noncomputable def o211 (P : Params) : Obj := { cls := Value.type "function", data := Data.func { name := Str.ofString "__init__", qualname := Str.ofString "Stream.__init__", params := parOf (inCls (stAt 10) 0), body := .stmts (bodOf (inCls (stAt 10) 0)), scope := scoOf (inCls (stAt 10) 0), globals := 3, closure := [], defaults := Value.none, kwdefaults := Value.none, pyModule := Value.str (Str.ofString "paperhold.objects") 359, code := Value.ref 210 } }
noncomputable def o212 (P : Params) : Obj := { cls := Value.type "tuple", data := Data.seq #[Value.str (Str.ofString "head") 444, Value.str (Str.ofString "octets") 445] }
noncomputable def o213 (P : Params) : Obj := { cls := Value.type "dict", data := Data.dict #[{ hash := PyData.keyHash P (Str.ofString "__module__"), key := Value.str (Str.ofString "__module__") 430, val := Value.str (Str.ofString "paperhold.objects") 359 }, { hash := PyData.keyHash P (Str.ofString "__firstlineno__"), key := Value.str (Str.ofString "__firstlineno__") 434, val := Value.int 73 433 }, { hash := PyData.keyHash P (Str.ofString "__init__"), key := Value.str (Str.ofString "__init__") 443, val := Value.ref 211 }, { hash := PyData.keyHash P (Str.ofString "__static_attributes__"), key := Value.str (Str.ofString "__static_attributes__") 446, val := Value.ref 212 }, { hash := PyData.keyHash P (Str.ofString "__dict__"), key := Value.str (Str.ofString "__dict__") 448, val := Value.ref 215 }, { hash := PyData.keyHash P (Str.ofString "__weakref__"), key := Value.str (Str.ofString "__weakref__") 450, val := Value.ref 216 }, { hash := PyData.keyHash P (Str.ofString "__doc__"), key := Value.str (Str.ofString "__doc__") 451, val := Value.none }] 4 }
noncomputable def o214 (P : Params) : Obj := { cls := Value.type "type", data := Data.cls { name := Str.ofString "Stream", bases := [Value.type "object"], mro := [Value.ref 214, Value.type "object"], ns := 213, qualname := Str.ofString "Stream" }, slots := #[Option.none, Option.none, Option.some (Value.str (Str.ofString "Stream") 423), Option.some (Value.str (Str.ofString "Stream") 431), Option.some (Value.builtin "object.__new__"), Option.some (Value.bool Bool.true)] }
noncomputable def o215 (P : Params) : Obj := { cls := Value.type "getset_descriptor", data := Data.fields #[Value.str (Str.ofString "__dict__") 447, Value.ref 214, Value.builtin "function.__dict__", Value.builtin "function.__dict__#set"] }
noncomputable def o216 (P : Params) : Obj := { cls := Value.type "getset_descriptor", data := Data.fields #[Value.str (Str.ofString "__weakref__") 449, Value.ref 214, Value.builtin "ExceptionGroup.__weakref__", Value.none] }
noncomputable def o217 (P : Params) : Obj := { cls := Value.type "super", data := Data.fields #[Value.ref 214, Value.ref 214, Value.ref 214] }
noncomputable def o218 (P : Params) : Obj := { cls := Value.type "builtin_function_or_method", data := Data.fields #[Value.builtin "object.__init_subclass__", Value.ref 214] }
noncomputable def o3v19 (P : Params) : Obj := { cls := Value.type "dict", data := Data.dict #[{ hash := PyData.keyHash P (Str.ofString "__name__"), key := Value.str (Str.ofString "__name__") 165, val := Value.str (Str.ofString "paperhold.objects") 359 }, { hash := PyData.keyHash P (Str.ofString "__doc__"), key := Value.str (Str.ofString "__doc__") 166, val := Value.none }, { hash := PyData.keyHash P (Str.ofString "__package__"), key := Value.str (Str.ofString "__package__") 167, val := Value.none }, { hash := PyData.keyHash P (Str.ofString "__loader__"), key := Value.str (Str.ofString "__loader__") 168, val := Value.builtin "__main__.__loader__#opaque" }, { hash := PyData.keyHash P (Str.ofString "__spec__"), key := Value.str (Str.ofString "__spec__") 169, val := Value.none }, { hash := PyData.keyHash P (Str.ofString "__annotations__"), key := Value.str (Str.ofString "__annotations__") 170, val := Value.ref 6 }, { hash := PyData.keyHash P (Str.ofString "__builtins__"), key := Value.str (Str.ofString "__builtins__") 171, val := Value.ref 4 }, { hash := PyData.keyHash P (Str.ofString "__file__"), key := Value.str (Str.ofString "__file__") 173, val := Value.str (Str.ofString "/claim/cut.py") 172 }, { hash := PyData.keyHash P (Str.ofString "__cached__"), key := Value.str (Str.ofString "__cached__") 174, val := Value.none }, { hash := PyData.keyHash P (Str.ofString "_wall"), key := Value.str (Str.ofString "_wall") 193, val := Value.ref 21 }, { hash := PyData.keyHash P (Str.ofString "PaperError"), key := Value.str (Str.ofString "PaperError") 235, val := Value.ref 46 }, { hash := PyData.keyHash P (Str.ofString "Decimal"), key := Value.str (Str.ofString "Decimal") 351, val := Value.ref 143 }, { hash := PyData.keyHash P (Str.ofString "sign_text"), key := Value.str (Str.ofString "sign_text") 358, val := Value.ref 154 }, { hash := PyData.keyHash P (Str.ofString "MOST_HOPS"), key := Value.str (Str.ofString "MOST_HOPS") 362, val := Value.int 30 361 }, { hash := PyData.keyHash P (Str.ofString "Name"), key := Value.str (Str.ofString "Name") 391, val := Value.ref 171 }, { hash := PyData.keyHash P (Str.ofString "String"), key := Value.str (Str.ofString "String") 422, val := Value.ref 193 }, { hash := PyData.keyHash P (Str.ofString "Stream"), key := Value.str (Str.ofString "Stream") 453, val := Value.ref 214 }, { hash := PyData.keyHash P (Str.ofString "Reference"), key := Value.str (Str.ofString "Reference") 491, val := Value.ref 242 }, { hash := PyData.keyHash P (Str.ofString "kind_of"), key := Value.str (Str.ofString "kind_of") 498, val := Value.ref 253 }, { hash := PyData.keyHash P (Str.ofString "told_plain"), key := Value.str (Str.ofString "told_plain") 506, val := Value.ref 260 }, { hash := PyData.keyHash P (Str.ofString "told"), key := Value.str (Str.ofString "told") 512, val := Value.ref 265 }, { hash := PyData.keyHash P (Str.ofString "told_objects"), key := Value.str (Str.ofString "told_objects") 513, val := Value.ref 265 }, { hash := PyData.keyHash P (Str.ofString "renumbered"), key := Value.str (Str.ofString "renumbered") 519, val := Value.ref 270 }, { hash := PyData.keyHash P (Str.ofString "Lookup"), key := Value.str (Str.ofString "Lookup") 571, val := Value.ref 302 }] 24 }
noncomputable def o12v19 (P : Params) : Obj := { cls := Value.none, data := Data.fields #[Value.int 1 0, Value.int 0 0, Value.ref 20, Value.int 5 0, Value.int 0 0, Value.ref 27, Value.int 15 0, Value.int 0 0, Value.ref 55, Value.int 60 0, Value.int 0 0, Value.ref 153, Value.int 64 0, Value.int 0 0, Value.ref 160, Value.int 68 0, Value.int 0 0, Value.ref 181, Value.int 73 0, Value.int 0 0, Value.ref 203, Value.int 78 0, Value.int 0 0, Value.ref 224, Value.int 86 0, Value.int 0 0, Value.ref 252, Value.int 108 0, Value.int 0 0, Value.ref 259, Value.int 122 0, Value.int 0 0, Value.ref 264, Value.int 132 0, Value.int 0 0, Value.ref 269, Value.int 147 0, Value.int 0 0, Value.ref 276] }
noncomputable def o219 (P : Params) : Obj := { cls := Value.type "tuple", data := Data.seq #[] }
noncomputable def o220 (P : Params) : Obj := { cls := Value.type "builtin_function_or_method", data := Data.fields #[Value.builtin "type.__prepare__", Value.type "type"] }
noncomputable def o221 (P : Params) : Obj := { cls := Value.type "dict", data := Data.dict #[{ hash := PyData.keyHash P (Str.ofString "__module__"), key := Value.str (Str.ofString "__module__") 461, val := Value.str (Str.ofString "paperhold.objects") 359 }, { hash := PyData.keyHash P (Str.ofString "__qualname__"), key := Value.str (Str.ofString "__qualname__") 463, val := Value.str (Str.ofString "Reference") 462 }, { hash := PyData.keyHash P (Str.ofString "__firstlineno__"), key := Value.str (Str.ofString "__firstlineno__") 465, val := Value.int 78 464 }, { hash := PyData.keyHash P (Str.ofString "__init__"), key := Value.str (Str.ofString "__init__") 474, val := Value.ref 232 }, { hash := PyData.keyHash P (Str.ofString "pair"), key := Value.str (Str.ofString "pair") 481, val := Value.ref 239 }, { hash := PyData.keyHash P (Str.ofString "__static_attributes__"), key := Value.str (Str.ofString "__static_attributes__") 484, val := Value.ref 240 }] 6 }
noncomputable def o222 (P : Params) : Obj := { cls := Value.type "tuple", data := Data.seq #[] }
noncomputable def o223 (P : Params) : Obj := { cls := Value.none, data := Data.fields #[Value.int 80 0, Value.int 4 0, Value.ref 231, Value.int 84 0, Value.int 4 0, Value.ref 238] }
noncomputable def o224 (P : Params) : Obj := { cls := Value.type "code", data := Data.fields #[Value.str (Str.ofString "Reference") 456, Value.str (Str.ofString "Reference") 457, Value.str (Str.ofString "/claim/cut.py") 458, Value.int 78 0, Value.int 0 0, Value.int 0 0, Value.int 0 0, Value.int 0 0, Value.ref 222, Value.bool Bool.false, Value.int 181 0, Value.ref 223, Value.none, Value.none, Value.none, Value.none, Value.int 459 0, Value.int 78 0, Value.str (Str.ofString "/claim/cut.py") 460] }
noncomputable def o225 (P : Params) : Obj := { cls := Value.type "frame", slots := #[Option.some (Value.ref 224), Option.some (Value.ref 3), Option.some (Value.ref 221), Option.none, Option.some (Value.str (Str.ofString "paperhold.objects") 359), Option.none, Option.some (Value.ref 0)] }
noncomputable def o226 (P : Params) : Obj := { cls := Value.type "tuple", data := Data.seq #[] }
noncomputable def o227 (P : Params) : Obj := { cls := Value.none, data := Data.fields #[] }
noncomputable def o228 (P : Params) : Obj := { cls := Value.type "tuple", data := Data.seq #[Value.str (Str.ofString "self") 469, Value.str (Str.ofString "number") 470, Value.str (Str.ofString "generation") 471] }
noncomputable def o229 (P : Params) : Obj := { cls := Value.type "tuple", data := Data.seq #[] }
noncomputable def o230 (P : Params) : Obj := { cls := Value.none, data := Data.func { name := Str.ofString "__init__", qualname := Str.ofString "Reference.__init__", params := parOf (inCls (stAt 11) 0), body := .stmts (bodOf (inCls (stAt 11) 0)), scope := scoOf (inCls (stAt 11) 0), globals := 0, closure := [], defaults := Value.none, kwdefaults := Value.none } }
noncomputable def o231 (P : Params) : Obj := { cls := Value.type "code", data := Data.fields #[Value.str (Str.ofString "__init__") 466, Value.str (Str.ofString "Reference.__init__") 467, Value.str (Str.ofString "/claim/cut.py") 468, Value.int 80 0, Value.int 3 0, Value.int 0 0, Value.int 0 0, Value.int 3 0, Value.ref 226, Value.bool Bool.true, Value.int 181 0, Value.ref 227, Value.none, Value.ref 228, Value.ref 229, Value.ref 230, Value.int 472 0, Value.int 80 0, Value.str (Str.ofString "/claim/cut.py") 473] }
noncomputable def o232 (P : Params) : Obj := { cls := Value.type "function", data := Data.func { name := Str.ofString "__init__", qualname := Str.ofString "Reference.__init__", params := parOf (inCls (stAt 11) 0), body := .stmts (bodOf (inCls (stAt 11) 0)), scope := scoOf (inCls (stAt 11) 0), globals := 3, closure := [], defaults := Value.none, kwdefaults := Value.none, pyModule := Value.str (Str.ofString "paperhold.objects") 359, code := Value.ref 231 } }
noncomputable def o233 (P : Params) : Obj := { cls := Value.type "tuple", data := Data.seq #[] }
noncomputable def o234 (P : Params) : Obj := { cls := Value.none, data := Data.fields #[] }
noncomputable def o235 (P : Params) : Obj := { cls := Value.type "tuple", data := Data.seq #[Value.str (Str.ofString "self") 478] }
noncomputable def o236 (P : Params) : Obj := { cls := Value.type "tuple", data := Data.seq #[] }
noncomputable def o237 (P : Params) : Obj := { cls := Value.none, data := Data.func { name := Str.ofString "pair", qualname := Str.ofString "Reference.pair", params := parOf (inCls (stAt 11) 1), body := .stmts (bodOf (inCls (stAt 11) 1)), scope := scoOf (inCls (stAt 11) 1), globals := 0, closure := [], defaults := Value.none, kwdefaults := Value.none } }
noncomputable def o238 (P : Params) : Obj := { cls := Value.type "code", data := Data.fields #[Value.str (Str.ofString "pair") 475, Value.str (Str.ofString "Reference.pair") 476, Value.str (Str.ofString "/claim/cut.py") 477, Value.int 84 0, Value.int 1 0, Value.int 0 0, Value.int 0 0, Value.int 3 0, Value.ref 233, Value.bool Bool.true, Value.int 181 0, Value.ref 234, Value.none, Value.ref 235, Value.ref 236, Value.ref 237, Value.int 479 0, Value.int 84 0, Value.str (Str.ofString "/claim/cut.py") 480] }
noncomputable def o239 (P : Params) : Obj := { cls := Value.type "function", data := Data.func { name := Str.ofString "pair", qualname := Str.ofString "Reference.pair", params := parOf (inCls (stAt 11) 1), body := .stmts (bodOf (inCls (stAt 11) 1)), scope := scoOf (inCls (stAt 11) 1), globals := 3, closure := [], defaults := Value.none, kwdefaults := Value.none, pyModule := Value.str (Str.ofString "paperhold.objects") 359, code := Value.ref 238 } }
noncomputable def o240 (P : Params) : Obj := { cls := Value.type "tuple", data := Data.seq #[Value.str (Str.ofString "generation") 482, Value.str (Str.ofString "number") 483] }
noncomputable def o241 (P : Params) : Obj := { cls := Value.type "dict", data := Data.dict #[{ hash := PyData.keyHash P (Str.ofString "__module__"), key := Value.str (Str.ofString "__module__") 461, val := Value.str (Str.ofString "paperhold.objects") 359 }, { hash := PyData.keyHash P (Str.ofString "__firstlineno__"), key := Value.str (Str.ofString "__firstlineno__") 465, val := Value.int 78 464 }, { hash := PyData.keyHash P (Str.ofString "__init__"), key := Value.str (Str.ofString "__init__") 474, val := Value.ref 232 }, { hash := PyData.keyHash P (Str.ofString "pair"), key := Value.str (Str.ofString "pair") 481, val := Value.ref 239 }, { hash := PyData.keyHash P (Str.ofString "__static_attributes__"), key := Value.str (Str.ofString "__static_attributes__") 484, val := Value.ref 240 }, { hash := PyData.keyHash P (Str.ofString "__dict__"), key := Value.str (Str.ofString "__dict__") 486, val := Value.ref 243 }, { hash := PyData.keyHash P (Str.ofString "__weakref__"), key := Value.str (Str.ofString "__weakref__") 488, val := Value.ref 244 }, { hash := PyData.keyHash P (Str.ofString "__doc__"), key := Value.str (Str.ofString "__doc__") 489, val := Value.none }] 4 }
noncomputable def o242 (P : Params) : Obj := { cls := Value.type "type", data := Data.cls { name := Str.ofString "Reference", bases := [Value.type "object"], mro := [Value.ref 242, Value.type "object"], ns := 241, qualname := Str.ofString "Reference" }, slots := #[Option.none, Option.none, Option.some (Value.str (Str.ofString "Reference") 454), Option.some (Value.str (Str.ofString "Reference") 462), Option.some (Value.builtin "object.__new__"), Option.some (Value.bool Bool.true)] }
noncomputable def o243 (P : Params) : Obj := { cls := Value.type "getset_descriptor", data := Data.fields #[Value.str (Str.ofString "__dict__") 485, Value.ref 242, Value.builtin "function.__dict__", Value.builtin "function.__dict__#set"] }
noncomputable def o244 (P : Params) : Obj := { cls := Value.type "getset_descriptor", data := Data.fields #[Value.str (Str.ofString "__weakref__") 487, Value.ref 242, Value.builtin "ExceptionGroup.__weakref__", Value.none] }
noncomputable def o245 (P : Params) : Obj := { cls := Value.type "super", data := Data.fields #[Value.ref 242, Value.ref 242, Value.ref 242] }
noncomputable def o246 (P : Params) : Obj := { cls := Value.type "builtin_function_or_method", data := Data.fields #[Value.builtin "object.__init_subclass__", Value.ref 242] }
noncomputable def o247 (P : Params) : Obj := { cls := Value.type "tuple", data := Data.seq #[] }
noncomputable def o248 (P : Params) : Obj := { cls := Value.none, data := Data.fields #[] }
noncomputable def o249 (P : Params) : Obj := { cls := Value.type "tuple", data := Data.seq #[Value.str (Str.ofString "value") 495] }
noncomputable def o250 (P : Params) : Obj := { cls := Value.type "tuple", data := Data.seq #[] }
noncomputable def o251 (P : Params) : Obj := { cls := Value.none, data := Data.func { name := Str.ofString "kind_of", qualname := Str.ofString "kind_of", params := parOf (stAt 12), body := .stmts (bodOf (stAt 12)), scope := scoOf (stAt 12), globals := 0, closure := [], defaults := Value.none, kwdefaults := Value.none } }
noncomputable def o252 (P : Params) : Obj := { cls := Value.type "code", data := Data.fields #[Value.str (Str.ofString "kind_of") 492, Value.str (Str.ofString "kind_of") 493, Value.str (Str.ofString "/claim/cut.py") 494, Value.int 86 0, Value.int 1 0, Value.int 0 0, Value.int 0 0, Value.int 3 0, Value.ref 247, Value.bool Bool.true, Value.int 181 0, Value.ref 248, Value.none, Value.ref 249, Value.ref 250, Value.ref 251, Value.int 496 0, Value.int 86 0, Value.str (Str.ofString "/claim/cut.py") 497] }
noncomputable def o253 (P : Params) : Obj := { cls := Value.type "function", data := Data.func { name := Str.ofString "kind_of", qualname := Str.ofString "kind_of", params := parOf (stAt 12), body := .stmts (bodOf (stAt 12)), scope := scoOf (stAt 12), globals := 3, closure := [], defaults := Value.none, kwdefaults := Value.none, pyModule := Value.str (Str.ofString "paperhold.objects") 359, code := Value.ref 252 } }
noncomputable def o254 (P : Params) : Obj := { cls := Value.type "tuple", data := Data.seq #[] }
noncomputable def o255 (P : Params) : Obj := { cls := Value.none, data := Data.fields #[] }
noncomputable def o256 (P : Params) : Obj := { cls := Value.type "tuple", data := Data.seq #[Value.str (Str.ofString "kind") 502, Value.str (Str.ofString "value") 503] }
noncomputable def o257 (P : Params) : Obj := { cls := Value.type "tuple", data := Data.seq #[] }
noncomputable def o258 (P : Params) : Obj := { cls := Value.none, data := Data.func { name := Str.ofString "told_plain", qualname := Str.ofString "told_plain", params := parOf (stAt 13), body := .stmts (bodOf (stAt 13)), scope := scoOf (stAt 13), globals := 0, closure := [], defaults := Value.none, kwdefaults := Value.none } }
noncomputable def o259 (P : Params) : Obj := { cls := Value.type "code", data := Data.fields #[Value.str (Str.ofString "told_plain") 499, Value.str (Str.ofString "told_plain") 500, Value.str (Str.ofString "/claim/cut.py") 501, Value.int 108 0, Value.int 2 0, Value.int 0 0, Value.int 0 0, Value.int 3 0, Value.ref 254, Value.bool Bool.true, Value.int 181 0, Value.ref 255, Value.none, Value.ref 256, Value.ref 257, Value.ref 258, Value.int 504 0, Value.int 108 0, Value.str (Str.ofString "/claim/cut.py") 505] }
noncomputable def o260 (P : Params) : Obj := { cls := Value.type "function", data := Data.func { name := Str.ofString "told_plain", qualname := Str.ofString "told_plain", params := parOf (stAt 13), body := .stmts (bodOf (stAt 13)), scope := scoOf (stAt 13), globals := 3, closure := [], defaults := Value.none, kwdefaults := Value.none, pyModule := Value.str (Str.ofString "paperhold.objects") 359, code := Value.ref 259 } }
noncomputable def o261 (P : Params) : Obj := { cls := Value.type "tuple", data := Data.seq #[] }
noncomputable def o262 (P : Params) : Obj := { cls := Value.none, data := Data.fields #[] }
noncomputable def o263 (P : Params) : Obj := { cls := Value.none, data := Data.func { name := Str.ofString "told", qualname := Str.ofString "told", params := parOf (stAt 14), body := .stmts (bodOf (stAt 14)), scope := scoOf (stAt 14), globals := 0, closure := [], defaults := Value.none, kwdefaults := Value.none } }
noncomputable def o264 (P : Params) : Obj := { cls := Value.type "code", data := Data.fields #[Value.str (Str.ofString "told") 507, Value.str (Str.ofString "told") 508, Value.str (Str.ofString "/claim/cut.py") 509, Value.int 122 0, Value.int 1 0, Value.int 0 0, Value.int 0 0, Value.int 3 0, Value.ref 261, Value.bool Bool.true, Value.int 181 0, Value.ref 262, Value.none, Value.none, Value.none, Value.ref 263, Value.int 510 0, Value.int 122 0, Value.str (Str.ofString "/claim/cut.py") 511] }
noncomputable def o265 (P : Params) : Obj := { cls := Value.type "function", data := Data.func { name := Str.ofString "told", qualname := Str.ofString "told", params := parOf (stAt 14), body := .stmts (bodOf (stAt 14)), scope := scoOf (stAt 14), globals := 3, closure := [], defaults := Value.none, kwdefaults := Value.none, pyModule := Value.str (Str.ofString "paperhold.objects") 359, code := Value.ref 264 } }
noncomputable def o266 (P : Params) : Obj := { cls := Value.type "tuple", data := Data.seq #[] }
noncomputable def o267 (P : Params) : Obj := { cls := Value.none, data := Data.fields #[] }
noncomputable def o268 (P : Params) : Obj := { cls := Value.none, data := Data.func { name := Str.ofString "renumbered", qualname := Str.ofString "renumbered", params := parOf (stAt 16), body := .stmts (bodOf (stAt 16)), scope := scoOf (stAt 16), globals := 0, closure := [], defaults := Value.none, kwdefaults := Value.none } }
noncomputable def o269 (P : Params) : Obj := { cls := Value.type "code", data := Data.fields #[Value.str (Str.ofString "renumbered") 514, Value.str (Str.ofString "renumbered") 515, Value.str (Str.ofString "/claim/cut.py") 516, Value.int 132 0, Value.int 2 0, Value.int 0 0, Value.int 0 0, Value.int 3 0, Value.ref 266, Value.bool Bool.true, Value.int 181 0, Value.ref 267, Value.none, Value.none, Value.none, Value.ref 268, Value.int 517 0, Value.int 132 0, Value.str (Str.ofString "/claim/cut.py") 518] }
noncomputable def o270 (P : Params) : Obj := { cls := Value.type "function", data := Data.func { name := Str.ofString "renumbered", qualname := Str.ofString "renumbered", params := parOf (stAt 16), body := .stmts (bodOf (stAt 16)), scope := scoOf (stAt 16), globals := 3, closure := [], defaults := Value.none, kwdefaults := Value.none, pyModule := Value.str (Str.ofString "paperhold.objects") 359, code := Value.ref 269 } }
noncomputable def o271 (P : Params) : Obj := { cls := Value.type "tuple", data := Data.seq #[] }
noncomputable def o272 (P : Params) : Obj := { cls := Value.type "builtin_function_or_method", data := Data.fields #[Value.builtin "type.__prepare__", Value.type "type"] }
noncomputable def o273 (P : Params) : Obj := { cls := Value.type "dict", data := Data.dict #[{ hash := PyData.keyHash P (Str.ofString "__module__"), key := Value.str (Str.ofString "__module__") 527, val := Value.str (Str.ofString "paperhold.objects") 359 }, { hash := PyData.keyHash P (Str.ofString "__qualname__"), key := Value.str (Str.ofString "__qualname__") 529, val := Value.str (Str.ofString "Lookup") 528 }, { hash := PyData.keyHash P (Str.ofString "__firstlineno__"), key := Value.str (Str.ofString "__firstlineno__") 531, val := Value.int 147 530 }, { hash := PyData.keyHash P (Str.ofString "__init__"), key := Value.str (Str.ofString "__init__") 540, val := Value.ref 285 }, { hash := PyData.keyHash P (Str.ofString "fetch"), key := Value.str (Str.ofString "fetch") 552, val := Value.ref 292 }, { hash := PyData.keyHash P (Str.ofString "get"), key := Value.str (Str.ofString "get") 561, val := Value.ref 299 }, { hash := PyData.keyHash P (Str.ofString "__static_attributes__"), key := Value.str (Str.ofString "__static_attributes__") 564, val := Value.ref 300 }] 7 }
noncomputable def o274 (P : Params) : Obj := { cls := Value.type "tuple", data := Data.seq #[] }
noncomputable def o275 (P : Params) : Obj := { cls := Value.none, data := Data.fields #[Value.int 149 0, Value.int 4 0, Value.ref 284, Value.int 153 0, Value.int 4 0, Value.ref 291, Value.int 164 0, Value.int 4 0, Value.ref 298] }
noncomputable def o276 (P : Params) : Obj := { cls := Value.type "code", data := Data.fields #[Value.str (Str.ofString "Lookup") 522, Value.str (Str.ofString "Lookup") 523, Value.str (Str.ofString "/claim/cut.py") 524, Value.int 147 0, Value.int 0 0, Value.int 0 0, Value.int 0 0, Value.int 0 0, Value.ref 274, Value.bool Bool.false, Value.int 181 0, Value.ref 275, Value.none, Value.none, Value.none, Value.none, Value.int 525 0, Value.int 147 0, Value.str (Str.ofString "/claim/cut.py") 526] }
noncomputable def o277 (P : Params) : Obj := { cls := Value.type "frame", slots := #[Option.some (Value.ref 276), Option.some (Value.ref 3), Option.some (Value.ref 273), Option.none, Option.some (Value.str (Str.ofString "paperhold.objects") 359), Option.none, Option.some (Value.ref 0)] }
noncomputable def o278 (P : Params) : Obj := { cls := Value.type "tuple", data := Data.seq #[Value.none, Value.none] }
noncomputable def o279 (P : Params) : Obj := { cls := Value.type "tuple", data := Data.seq #[] }
noncomputable def o280 (P : Params) : Obj := { cls := Value.none, data := Data.fields #[] }
noncomputable def o281 (P : Params) : Obj := { cls := Value.type "tuple", data := Data.seq #[Value.str (Str.ofString "self") 535, Value.str (Str.ofString "table") 536, Value.str (Str.ofString "trailer") 537] }
noncomputable def o282 (P : Params) : Obj := { cls := Value.type "tuple", data := Data.seq #[] }
noncomputable def o283 (P : Params) : Obj := { cls := Value.none, data := Data.func { name := Str.ofString "__init__", qualname := Str.ofString "Lookup.__init__", params := parOf (inCls (stAt 17) 0), body := .stmts (bodOf (inCls (stAt 17) 0)), scope := scoOf (inCls (stAt 17) 0), globals := 0, closure := [], defaults := Value.none, kwdefaults := Value.none } }
noncomputable def o284 (P : Params) : Obj := { cls := Value.type "code", data := Data.fields #[Value.str (Str.ofString "__init__") 532, Value.str (Str.ofString "Lookup.__init__") 533, Value.str (Str.ofString "/claim/cut.py") 534, Value.int 149 0, Value.int 3 0, Value.int 0 0, Value.int 0 0, Value.int 3 0, Value.ref 279, Value.bool Bool.true, Value.int 181 0, Value.ref 280, Value.none, Value.ref 281, Value.ref 282, Value.ref 283, Value.int 538 0, Value.int 149 0, Value.str (Str.ofString "/claim/cut.py") 539] }
noncomputable def o285 (P : Params) : Obj := { cls := Value.type "function", data := Data.func { name := Str.ofString "__init__", qualname := Str.ofString "Lookup.__init__", params := parOf (inCls (stAt 17) 0), body := .stmts (bodOf (inCls (stAt 17) 0)), scope := scoOf (inCls (stAt 17) 0), globals := 3, closure := [], defaults := Value.ref 278, kwdefaults := Value.none, pyModule := Value.str (Str.ofString "paperhold.objects") 359, code := Value.ref 284 } }
noncomputable def o286 (P : Params) : Obj := { cls := Value.type "tuple", data := Data.seq #[] }
noncomputable def o287 (P : Params) : Obj := { cls := Value.none, data := Data.fields #[] }
noncomputable def o288 (P : Params) : Obj := { cls := Value.type "tuple", data := Data.seq #[Value.str (Str.ofString "self") 544, Value.str (Str.ofString "value") 545, Value.str (Str.ofString "here") 546, Value.str (Str.ofString "hop") 547, Value.str (Str.ofString "generation") 548, Value.str (Str.ofString "found") 549] }
noncomputable def o289 (P : Params) : Obj := { cls := Value.type "tuple", data := Data.seq #[] }
noncomputable def o290 (P : Params) : Obj := { cls := Value.none, data := Data.func { name := Str.ofString "fetch", qualname := Str.ofString "Lookup.fetch", params := parOf (inCls (stAt 17) 1), body := .stmts (bodOf (inCls (stAt 17) 1)), scope := scoOf (inCls (stAt 17) 1), globals := 0, closure := [], defaults := Value.none, kwdefaults := Value.none } }
noncomputable def o291 (P : Params) : Obj := { cls := Value.type "code", data := Data.fields #[Value.str (Str.ofString "fetch") 541, Value.str (Str.ofString "Lookup.fetch") 542, Value.str (Str.ofString "/claim/cut.py") 543, Value.int 153 0, Value.int 2 0, Value.int 0 0, Value.int 0 0, Value.int 3 0, Value.ref 286, Value.bool Bool.true, Value.int 181 0, Value.ref 287, Value.none, Value.ref 288, Value.ref 289, Value.ref 290, Value.int 550 0, Value.int 153 0, Value.str (Str.ofString "/claim/cut.py") 551] }
noncomputable def o292 (P : Params) : Obj := { cls := Value.type "function", data := Data.func { name := Str.ofString "fetch", qualname := Str.ofString "Lookup.fetch", params := parOf (inCls (stAt 17) 1), body := .stmts (bodOf (inCls (stAt 17) 1)), scope := scoOf (inCls (stAt 17) 1), globals := 3, closure := [], defaults := Value.none, kwdefaults := Value.none, pyModule := Value.str (Str.ofString "paperhold.objects") 359, code := Value.ref 291 } }
noncomputable def o293 (P : Params) : Obj := { cls := Value.type "tuple", data := Data.seq #[] }
noncomputable def o294 (P : Params) : Obj := { cls := Value.none, data := Data.fields #[] }
noncomputable def o295 (P : Params) : Obj := { cls := Value.type "tuple", data := Data.seq #[Value.str (Str.ofString "self") 556, Value.str (Str.ofString "head") 557, Value.str (Str.ofString "key") 558] }
noncomputable def o296 (P : Params) : Obj := { cls := Value.type "tuple", data := Data.seq #[] }
noncomputable def o297 (P : Params) : Obj := { cls := Value.none, data := Data.func { name := Str.ofString "get", qualname := Str.ofString "Lookup.get", params := parOf (inCls (stAt 17) 2), body := .stmts (bodOf (inCls (stAt 17) 2)), scope := scoOf (inCls (stAt 17) 2), globals := 0, closure := [], defaults := Value.none, kwdefaults := Value.none } }
noncomputable def o298 (P : Params) : Obj := { cls := Value.type "code", data := Data.fields #[Value.str (Str.ofString "get") 553, Value.str (Str.ofString "Lookup.get") 554, Value.str (Str.ofString "/claim/cut.py") 555, Value.int 164 0, Value.int 3 0, Value.int 0 0, Value.int 0 0, Value.int 3 0, Value.ref 293, Value.bool Bool.true, Value.int 181 0, Value.ref 294, Value.none, Value.ref 295, Value.ref 296, Value.ref 297, Value.int 559 0, Value.int 164 0, Value.str (Str.ofString "/claim/cut.py") 560] }
noncomputable def o299 (P : Params) : Obj := { cls := Value.type "function", data := Data.func { name := Str.ofString "get", qualname := Str.ofString "Lookup.get", params := parOf (inCls (stAt 17) 2), body := .stmts (bodOf (inCls (stAt 17) 2)), scope := scoOf (inCls (stAt 17) 2), globals := 3, closure := [], defaults := Value.none, kwdefaults := Value.none, pyModule := Value.str (Str.ofString "paperhold.objects") 359, code := Value.ref 298 } }
noncomputable def o300 (P : Params) : Obj := { cls := Value.type "tuple", data := Data.seq #[Value.str (Str.ofString "table") 562, Value.str (Str.ofString "trailer") 563] }
noncomputable def o301 (P : Params) : Obj := { cls := Value.type "dict", data := Data.dict #[{ hash := PyData.keyHash P (Str.ofString "__module__"), key := Value.str (Str.ofString "__module__") 527, val := Value.str (Str.ofString "paperhold.objects") 359 }, { hash := PyData.keyHash P (Str.ofString "__firstlineno__"), key := Value.str (Str.ofString "__firstlineno__") 531, val := Value.int 147 530 }, { hash := PyData.keyHash P (Str.ofString "__init__"), key := Value.str (Str.ofString "__init__") 540, val := Value.ref 285 }, { hash := PyData.keyHash P (Str.ofString "fetch"), key := Value.str (Str.ofString "fetch") 552, val := Value.ref 292 }, { hash := PyData.keyHash P (Str.ofString "get"), key := Value.str (Str.ofString "get") 561, val := Value.ref 299 }, { hash := PyData.keyHash P (Str.ofString "__static_attributes__"), key := Value.str (Str.ofString "__static_attributes__") 564, val := Value.ref 300 }, { hash := PyData.keyHash P (Str.ofString "__dict__"), key := Value.str (Str.ofString "__dict__") 566, val := Value.ref 303 }, { hash := PyData.keyHash P (Str.ofString "__weakref__"), key := Value.str (Str.ofString "__weakref__") 568, val := Value.ref 304 }, { hash := PyData.keyHash P (Str.ofString "__doc__"), key := Value.str (Str.ofString "__doc__") 569, val := Value.none }] 4 }
noncomputable def o302 (P : Params) : Obj := { cls := Value.type "type", data := Data.cls { name := Str.ofString "Lookup", bases := [Value.type "object"], mro := [Value.ref 302, Value.type "object"], ns := 301, qualname := Str.ofString "Lookup" }, slots := #[Option.none, Option.none, Option.some (Value.str (Str.ofString "Lookup") 520), Option.some (Value.str (Str.ofString "Lookup") 528), Option.some (Value.builtin "object.__new__"), Option.some (Value.bool Bool.true)] }
noncomputable def o303 (P : Params) : Obj := { cls := Value.type "getset_descriptor", data := Data.fields #[Value.str (Str.ofString "__dict__") 565, Value.ref 302, Value.builtin "function.__dict__", Value.builtin "function.__dict__#set"] }
noncomputable def o304 (P : Params) : Obj := { cls := Value.type "getset_descriptor", data := Data.fields #[Value.str (Str.ofString "__weakref__") 567, Value.ref 302, Value.builtin "ExceptionGroup.__weakref__", Value.none] }
noncomputable def o305 (P : Params) : Obj := { cls := Value.type "super", data := Data.fields #[Value.ref 302, Value.ref 302, Value.ref 302] }
noncomputable def o306 (P : Params) : Obj := { cls := Value.type "builtin_function_or_method", data := Data.fields #[Value.builtin "object.__init_subclass__", Value.ref 302] }
noncomputable def o3v33 (P : Params) : Obj := { cls := Value.type "dict", data := Data.dict #[{ hash := PyData.keyHash P (Str.ofString "__name__"), key := Value.str (Str.ofString "__name__") 165, val := Value.str (Str.ofString "law_nn0124_01") 677 }, { hash := PyData.keyHash P (Str.ofString "__doc__"), key := Value.str (Str.ofString "__doc__") 166, val := Value.none }, { hash := PyData.keyHash P (Str.ofString "__package__"), key := Value.str (Str.ofString "__package__") 167, val := Value.none }, { hash := PyData.keyHash P (Str.ofString "__loader__"), key := Value.str (Str.ofString "__loader__") 168, val := Value.builtin "__main__.__loader__#opaque" }, { hash := PyData.keyHash P (Str.ofString "__spec__"), key := Value.str (Str.ofString "__spec__") 169, val := Value.none }, { hash := PyData.keyHash P (Str.ofString "__annotations__"), key := Value.str (Str.ofString "__annotations__") 170, val := Value.ref 6 }, { hash := PyData.keyHash P (Str.ofString "__builtins__"), key := Value.str (Str.ofString "__builtins__") 171, val := Value.ref 4 }, { hash := PyData.keyHash P (Str.ofString "__file__"), key := Value.str (Str.ofString "__file__") 173, val := Value.str (Str.ofString "/claim/cut.py") 172 }, { hash := PyData.keyHash P (Str.ofString "__cached__"), key := Value.str (Str.ofString "__cached__") 174, val := Value.none }, { hash := PyData.keyHash P (Str.ofString "_wall"), key := Value.str (Str.ofString "_wall") 193, val := Value.ref 21 }, { hash := PyData.keyHash P (Str.ofString "PaperError"), key := Value.str (Str.ofString "PaperError") 235, val := Value.ref 46 }, { hash := PyData.keyHash P (Str.ofString "Decimal"), key := Value.str (Str.ofString "Decimal") 351, val := Value.ref 143 }, { hash := PyData.keyHash P (Str.ofString "sign_text"), key := Value.str (Str.ofString "sign_text") 358, val := Value.ref 154 }, { hash := PyData.keyHash P (Str.ofString "MOST_HOPS"), key := Value.str (Str.ofString "MOST_HOPS") 362, val := Value.int 30 361 }, { hash := PyData.keyHash P (Str.ofString "Name"), key := Value.str (Str.ofString "Name") 391, val := Value.ref 171 }, { hash := PyData.keyHash P (Str.ofString "String"), key := Value.str (Str.ofString "String") 422, val := Value.ref 193 }, { hash := PyData.keyHash P (Str.ofString "Stream"), key := Value.str (Str.ofString "Stream") 453, val := Value.ref 214 }, { hash := PyData.keyHash P (Str.ofString "Reference"), key := Value.str (Str.ofString "Reference") 491, val := Value.ref 242 }, { hash := PyData.keyHash P (Str.ofString "kind_of"), key := Value.str (Str.ofString "kind_of") 498, val := Value.ref 253 }, { hash := PyData.keyHash P (Str.ofString "told_plain"), key := Value.str (Str.ofString "told_plain") 506, val := Value.ref 260 }, { hash := PyData.keyHash P (Str.ofString "told"), key := Value.str (Str.ofString "told") 512, val := Value.ref 265 }, { hash := PyData.keyHash P (Str.ofString "told_objects"), key := Value.str (Str.ofString "told_objects") 513, val := Value.ref 265 }, { hash := PyData.keyHash P (Str.ofString "renumbered"), key := Value.str (Str.ofString "renumbered") 519, val := Value.ref 270 }, { hash := PyData.keyHash P (Str.ofString "Lookup"), key := Value.str (Str.ofString "Lookup") 571, val := Value.ref 302 }, { hash := PyData.keyHash P (Str.ofString "Shelf"), key := Value.str (Str.ofString "Shelf") 634, val := Value.ref 356 }, { hash := PyData.keyHash P (Str.ofString "SINGLE"), key := Value.str (Str.ofString "SINGLE") 640, val := Value.ref 359 }, { hash := PyData.keyHash P (Str.ofString "word_of"), key := Value.str (Str.ofString "word_of") 647, val := Value.ref 366 }, { hash := PyData.keyHash P (Str.ofString "twins"), key := Value.str (Str.ofString "twins") 660, val := Value.ref 373 }, { hash := PyData.keyHash P (Str.ofString "joined_twins"), key := Value.str (Str.ofString "joined_twins") 676, val := Value.ref 380 }, { hash := PyData.keyHash P (Str.ofString "_law_pen"), key := Value.str (Str.ofString "_law_pen") 687, val := Value.ref 387 }, { hash := PyData.keyHash P (Str.ofString "_law_draw"), key := Value.str (Str.ofString "_law_draw") 696, val := Value.ref 394 }, { hash := PyData.keyHash P (Str.ofString "_law_value"), key := Value.str (Str.ofString "_law_value") 702, val := Value.ref 399 }, { hash := PyData.keyHash P (Str.ofString "_law_shelf"), key := Value.str (Str.ofString "_law_shelf") 711, val := Value.ref 406 }, { hash := PyData.keyHash P (Str.ofString "_law_unfolded"), key := Value.str (Str.ofString "_law_unfolded") 717, val := Value.ref 411 }, { hash := PyData.keyHash P (Str.ofString "_law_is_page"), key := Value.str (Str.ofString "_law_is_page") 724, val := Value.ref 418 }, { hash := PyData.keyHash P (Str.ofString "law"), key := Value.str (Str.ofString "law") 730, val := Value.ref 423 }] 36 }
noncomputable def o12v33 (P : Params) : Obj := { cls := Value.none, data := Data.fields #[Value.int 1 0, Value.int 0 0, Value.ref 20, Value.int 5 0, Value.int 0 0, Value.ref 27, Value.int 15 0, Value.int 0 0, Value.ref 55, Value.int 60 0, Value.int 0 0, Value.ref 153, Value.int 64 0, Value.int 0 0, Value.ref 160, Value.int 68 0, Value.int 0 0, Value.ref 181, Value.int 73 0, Value.int 0 0, Value.ref 203, Value.int 78 0, Value.int 0 0, Value.ref 224, Value.int 86 0, Value.int 0 0, Value.ref 252, Value.int 108 0, Value.int 0 0, Value.ref 259, Value.int 122 0, Value.int 0 0, Value.ref 264, Value.int 132 0, Value.int 0 0, Value.ref 269, Value.int 147 0, Value.int 0 0, Value.ref 276, Value.int 166 0, Value.int 0 0, Value.ref 312, Value.int 189 0, Value.int 0 0, Value.ref 365, Value.int 193 0, Value.int 0 0, Value.ref 372, Value.int 206 0, Value.int 0 0, Value.ref 379, Value.int 224 0, Value.int 0 0, Value.ref 386, Value.int 229 0, Value.int 0 0, Value.ref 393, Value.int 236 0, Value.int 0 0, Value.ref 398, Value.int 250 0, Value.int 0 0, Value.ref 405, Value.int 257 0, Value.int 0 0, Value.ref 410, Value.int 270 0, Value.int 0 0, Value.ref 417, Value.int 272 0, Value.int 0 0, Value.ref 422] }
noncomputable def o302v33 (P : Params) : Obj := { cls := Value.type "type", data := Data.cls { name := Str.ofString "Lookup", bases := [Value.type "object"], mro := [Value.ref 302, Value.type "object"], ns := 301, qualname := Str.ofString "Lookup", subclasses := [Value.ref 356] }, slots := #[Option.none, Option.none, Option.some (Value.str (Str.ofString "Lookup") 520), Option.some (Value.str (Str.ofString "Lookup") 528), Option.some (Value.builtin "object.__new__"), Option.some (Value.bool Bool.true)] }
noncomputable def o307 (P : Params) : Obj := { cls := Value.type "tuple", data := Data.seq #[Value.ref 302] }
noncomputable def o308 (P : Params) : Obj := { cls := Value.type "builtin_function_or_method", data := Data.fields #[Value.builtin "type.__prepare__", Value.type "type"] }
noncomputable def o309 (P : Params) : Obj := { cls := Value.type "dict", data := Data.dict #[{ hash := PyData.keyHash P (Str.ofString "__module__"), key := Value.str (Str.ofString "__module__") 579, val := Value.str (Str.ofString "paperhold.objects") 359 }, { hash := PyData.keyHash P (Str.ofString "__qualname__"), key := Value.str (Str.ofString "__qualname__") 581, val := Value.str (Str.ofString "Shelf") 580 }, { hash := PyData.keyHash P (Str.ofString "__firstlineno__"), key := Value.str (Str.ofString "__firstlineno__") 583, val := Value.int 166 582 }, { hash := PyData.keyHash P (Str.ofString "put"), key := Value.str (Str.ofString "put") 593, val := Value.ref 320 }, { hash := PyData.keyHash P (Str.ofString "add"), key := Value.str (Str.ofString "add") 601, val := Value.ref 327 }, { hash := PyData.keyHash P (Str.ofString "drop"), key := Value.str (Str.ofString "drop") 609, val := Value.ref 334 }, { hash := PyData.keyHash P (Str.ofString "numbers"), key := Value.str (Str.ofString "numbers") 616, val := Value.ref 341 }, { hash := PyData.keyHash P (Str.ofString "root"), key := Value.str (Str.ofString "root") 624, val := Value.ref 348 }, { hash := PyData.keyHash P (Str.ofString "told"), key := Value.str (Str.ofString "told") 630, val := Value.ref 353 }, { hash := PyData.keyHash P (Str.ofString "__static_attributes__"), key := Value.str (Str.ofString "__static_attributes__") 631, val := Value.ref 354 }] 10 }
noncomputable def o310 (P : Params) : Obj := { cls := Value.type "tuple", data := Data.seq #[] }
noncomputable def o311 (P : Params) : Obj := { cls := Value.none, data := Data.fields #[Value.int 168 0, Value.int 4 0, Value.ref 319, Value.int 171 0, Value.int 4 0, Value.ref 326, Value.int 174 0, Value.int 4 0, Value.ref 333, Value.int 177 0, Value.int 4 0, Value.ref 340, Value.int 180 0, Value.int 4 0, Value.ref 347, Value.int 184 0, Value.int 4 0, Value.ref 352] }
noncomputable def o312 (P : Params) : Obj := { cls := Value.type "code", data := Data.fields #[Value.str (Str.ofString "Shelf") 574, Value.str (Str.ofString "Shelf") 575, Value.str (Str.ofString "/claim/cut.py") 576, Value.int 166 0, Value.int 0 0, Value.int 0 0, Value.int 0 0, Value.int 0 0, Value.ref 310, Value.bool Bool.false, Value.int 181 0, Value.ref 311, Value.none, Value.none, Value.none, Value.none, Value.int 577 0, Value.int 166 0, Value.str (Str.ofString "/claim/cut.py") 578] }
noncomputable def o313 (P : Params) : Obj := { cls := Value.type "frame", slots := #[Option.some (Value.ref 312), Option.some (Value.ref 3), Option.some (Value.ref 309), Option.none, Option.some (Value.str (Str.ofString "paperhold.objects") 359), Option.none, Option.some (Value.ref 0)] }
noncomputable def o314 (P : Params) : Obj := { cls := Value.type "tuple", data := Data.seq #[] }
noncomputable def o315 (P : Params) : Obj := { cls := Value.none, data := Data.fields #[] }
noncomputable def o316 (P : Params) : Obj := { cls := Value.type "tuple", data := Data.seq #[Value.str (Str.ofString "self") 587, Value.str (Str.ofString "number") 588, Value.str (Str.ofString "generation") 589, Value.str (Str.ofString "value") 590] }
noncomputable def o317 (P : Params) : Obj := { cls := Value.type "tuple", data := Data.seq #[] }
noncomputable def o318 (P : Params) : Obj := { cls := Value.none, data := Data.func { name := Str.ofString "put", qualname := Str.ofString "Shelf.put", params := parOf (inCls (stAt 18) 0), body := .stmts (bodOf (inCls (stAt 18) 0)), scope := scoOf (inCls (stAt 18) 0), globals := 0, closure := [], defaults := Value.none, kwdefaults := Value.none } }
noncomputable def o319 (P : Params) : Obj := { cls := Value.type "code", data := Data.fields #[Value.str (Str.ofString "put") 584, Value.str (Str.ofString "Shelf.put") 585, Value.str (Str.ofString "/claim/cut.py") 586, Value.int 168 0, Value.int 4 0, Value.int 0 0, Value.int 0 0, Value.int 3 0, Value.ref 314, Value.bool Bool.true, Value.int 181 0, Value.ref 315, Value.none, Value.ref 316, Value.ref 317, Value.ref 318, Value.int 591 0, Value.int 168 0, Value.str (Str.ofString "/claim/cut.py") 592] }
noncomputable def o320 (P : Params) : Obj := { cls := Value.type "function", data := Data.func { name := Str.ofString "put", qualname := Str.ofString "Shelf.put", params := parOf (inCls (stAt 18) 0), body := .stmts (bodOf (inCls (stAt 18) 0)), scope := scoOf (inCls (stAt 18) 0), globals := 3, closure := [], defaults := Value.none, kwdefaults := Value.none, pyModule := Value.str (Str.ofString "paperhold.objects") 359, code := Value.ref 319 } }
noncomputable def o321 (P : Params) : Obj := { cls := Value.type "tuple", data := Data.seq #[] }
noncomputable def o322 (P : Params) : Obj := { cls := Value.none, data := Data.fields #[] }
noncomputable def o323 (P : Params) : Obj := { cls := Value.type "tuple", data := Data.seq #[Value.str (Str.ofString "self") 597, Value.str (Str.ofString "value") 598] }
noncomputable def o324 (P : Params) : Obj := { cls := Value.type "tuple", data := Data.seq #[] }
noncomputable def o325 (P : Params) : Obj := { cls := Value.none, data := Data.func { name := Str.ofString "add", qualname := Str.ofString "Shelf.add", params := parOf (inCls (stAt 18) 1), body := .stmts (bodOf (inCls (stAt 18) 1)), scope := scoOf (inCls (stAt 18) 1), globals := 0, closure := [], defaults := Value.none, kwdefaults := Value.none } }
noncomputable def o326 (P : Params) : Obj := { cls := Value.type "code", data := Data.fields #[Value.str (Str.ofString "add") 594, Value.str (Str.ofString "Shelf.add") 595, Value.str (Str.ofString "/claim/cut.py") 596, Value.int 171 0, Value.int 2 0, Value.int 0 0, Value.int 0 0, Value.int 3 0, Value.ref 321, Value.bool Bool.true, Value.int 181 0, Value.ref 322, Value.none, Value.ref 323, Value.ref 324, Value.ref 325, Value.int 599 0, Value.int 171 0, Value.str (Str.ofString "/claim/cut.py") 600] }
noncomputable def o327 (P : Params) : Obj := { cls := Value.type "function", data := Data.func { name := Str.ofString "add", qualname := Str.ofString "Shelf.add", params := parOf (inCls (stAt 18) 1), body := .stmts (bodOf (inCls (stAt 18) 1)), scope := scoOf (inCls (stAt 18) 1), globals := 3, closure := [], defaults := Value.none, kwdefaults := Value.none, pyModule := Value.str (Str.ofString "paperhold.objects") 359, code := Value.ref 326 } }
noncomputable def o328 (P : Params) : Obj := { cls := Value.type "tuple", data := Data.seq #[] }
noncomputable def o329 (P : Params) : Obj := { cls := Value.none, data := Data.fields #[] }
noncomputable def o330 (P : Params) : Obj := { cls := Value.type "tuple", data := Data.seq #[Value.str (Str.ofString "self") 605, Value.str (Str.ofString "number") 606] }
noncomputable def o331 (P : Params) : Obj := { cls := Value.type "tuple", data := Data.seq #[] }
noncomputable def o332 (P : Params) : Obj := { cls := Value.none, data := Data.func { name := Str.ofString "drop", qualname := Str.ofString "Shelf.drop", params := parOf (inCls (stAt 18) 2), body := .stmts (bodOf (inCls (stAt 18) 2)), scope := scoOf (inCls (stAt 18) 2), globals := 0, closure := [], defaults := Value.none, kwdefaults := Value.none } }
noncomputable def o333 (P : Params) : Obj := { cls := Value.type "code", data := Data.fields #[Value.str (Str.ofString "drop") 602, Value.str (Str.ofString "Shelf.drop") 603, Value.str (Str.ofString "/claim/cut.py") 604, Value.int 174 0, Value.int 2 0, Value.int 0 0, Value.int 0 0, Value.int 3 0, Value.ref 328, Value.bool Bool.true, Value.int 181 0, Value.ref 329, Value.none, Value.ref 330, Value.ref 331, Value.ref 332, Value.int 607 0, Value.int 174 0, Value.str (Str.ofString "/claim/cut.py") 608] }
noncomputable def o334 (P : Params) : Obj := { cls := Value.type "function", data := Data.func { name := Str.ofString "drop", qualname := Str.ofString "Shelf.drop", params := parOf (inCls (stAt 18) 2), body := .stmts (bodOf (inCls (stAt 18) 2)), scope := scoOf (inCls (stAt 18) 2), globals := 3, closure := [], defaults := Value.none, kwdefaults := Value.none, pyModule := Value.str (Str.ofString "paperhold.objects") 359, code := Value.ref 333 } }
noncomputable def o335 (P : Params) : Obj := { cls := Value.type "tuple", data := Data.seq #[] }
noncomputable def o336 (P : Params) : Obj := { cls := Value.none, data := Data.fields #[] }
noncomputable def o337 (P : Params) : Obj := { cls := Value.type "tuple", data := Data.seq #[Value.str (Str.ofString "self") 613] }
noncomputable def o338 (P : Params) : Obj := { cls := Value.type "tuple", data := Data.seq #[] }
noncomputable def o339 (P : Params) : Obj := { cls := Value.none, data := Data.func { name := Str.ofString "numbers", qualname := Str.ofString "Shelf.numbers", params := parOf (inCls (stAt 18) 3), body := .stmts (bodOf (inCls (stAt 18) 3)), scope := scoOf (inCls (stAt 18) 3), globals := 0, closure := [], defaults := Value.none, kwdefaults := Value.none } }
noncomputable def o340 (P : Params) : Obj := { cls := Value.type "code", data := Data.fields #[Value.str (Str.ofString "numbers") 610, Value.str (Str.ofString "Shelf.numbers") 611, Value.str (Str.ofString "/claim/cut.py") 612, Value.int 177 0, Value.int 1 0, Value.int 0 0, Value.int 0 0, Value.int 3 0, Value.ref 335, Value.bool Bool.true, Value.int 181 0, Value.ref 336, Value.none, Value.ref 337, Value.ref 338, Value.ref 339, Value.int 614 0, Value.int 177 0, Value.str (Str.ofString "/claim/cut.py") 615] }
noncomputable def o341 (P : Params) : Obj := { cls := Value.type "function", data := Data.func { name := Str.ofString "numbers", qualname := Str.ofString "Shelf.numbers", params := parOf (inCls (stAt 18) 3), body := .stmts (bodOf (inCls (stAt 18) 3)), scope := scoOf (inCls (stAt 18) 3), globals := 3, closure := [], defaults := Value.none, kwdefaults := Value.none, pyModule := Value.str (Str.ofString "paperhold.objects") 359, code := Value.ref 340 } }
noncomputable def o342 (P : Params) : Obj := { cls := Value.type "tuple", data := Data.seq #[] }
noncomputable def o343 (P : Params) : Obj := { cls := Value.none, data := Data.fields #[] }
noncomputable def o344 (P : Params) : Obj := { cls := Value.type "tuple", data := Data.seq #[Value.str (Str.ofString "self") 620, Value.str (Str.ofString "found") 621] }
noncomputable def o345 (P : Params) : Obj := { cls := Value.type "tuple", data := Data.seq #[] }
noncomputable def o346 (P : Params) : Obj := { cls := Value.none, data := Data.func { name := Str.ofString "root", qualname := Str.ofString "Shelf.root", params := parOf (inCls (stAt 18) 4), body := .stmts (bodOf (inCls (stAt 18) 4)), scope := scoOf (inCls (stAt 18) 4), globals := 0, closure := [], defaults := Value.none, kwdefaults := Value.none } }
noncomputable def o347 (P : Params) : Obj := { cls := Value.type "code", data := Data.fields #[Value.str (Str.ofString "root") 617, Value.str (Str.ofString "Shelf.root") 618, Value.str (Str.ofString "/claim/cut.py") 619, Value.int 180 0, Value.int 1 0, Value.int 0 0, Value.int 0 0, Value.int 3 0, Value.ref 342, Value.bool Bool.true, Value.int 181 0, Value.ref 343, Value.none, Value.ref 344, Value.ref 345, Value.ref 346, Value.int 622 0, Value.int 180 0, Value.str (Str.ofString "/claim/cut.py") 623] }
noncomputable def o348 (P : Params) : Obj := { cls := Value.type "function", data := Data.func { name := Str.ofString "root", qualname := Str.ofString "Shelf.root", params := parOf (inCls (stAt 18) 4), body := .stmts (bodOf (inCls (stAt 18) 4)), scope := scoOf (inCls (stAt 18) 4), globals := 3, closure := [], defaults := Value.none, kwdefaults := Value.none, pyModule := Value.str (Str.ofString "paperhold.objects") 359, code := Value.ref 347 } }
noncomputable def o349 (P : Params) : Obj := { cls := Value.type "tuple", data := Data.seq #[] }
noncomputable def o350 (P : Params) : Obj := { cls := Value.none, data := Data.fields #[] }
noncomputable def o351 (P : Params) : Obj := { cls := Value.none, data := Data.func { name := Str.ofString "told", qualname := Str.ofString "Shelf.told", params := parOf (inCls (stAt 18) 5), body := .stmts (bodOf (inCls (stAt 18) 5)), scope := scoOf (inCls (stAt 18) 5), globals := 0, closure := [], defaults := Value.none, kwdefaults := Value.none } }
noncomputable def o352 (P : Params) : Obj := { cls := Value.type "code", data := Data.fields #[Value.str (Str.ofString "told") 625, Value.str (Str.ofString "Shelf.told") 626, Value.str (Str.ofString "/claim/cut.py") 627, Value.int 184 0, Value.int 1 0, Value.int 0 0, Value.int 0 0, Value.int 3 0, Value.ref 349, Value.bool Bool.true, Value.int 181 0, Value.ref 350, Value.none, Value.none, Value.none, Value.ref 351, Value.int 628 0, Value.int 184 0, Value.str (Str.ofString "/claim/cut.py") 629] }
noncomputable def o353 (P : Params) : Obj := { cls := Value.type "function", data := Data.func { name := Str.ofString "told", qualname := Str.ofString "Shelf.told", params := parOf (inCls (stAt 18) 5), body := .stmts (bodOf (inCls (stAt 18) 5)), scope := scoOf (inCls (stAt 18) 5), globals := 3, closure := [], defaults := Value.none, kwdefaults := Value.none, pyModule := Value.str (Str.ofString "paperhold.objects") 359, code := Value.ref 352 } }
noncomputable def o354 (P : Params) : Obj := { cls := Value.type "tuple", data := Data.seq #[] }
noncomputable def o355 (P : Params) : Obj := { cls := Value.type "dict", data := Data.dict #[{ hash := PyData.keyHash P (Str.ofString "__module__"), key := Value.str (Str.ofString "__module__") 579, val := Value.str (Str.ofString "paperhold.objects") 359 }, { hash := PyData.keyHash P (Str.ofString "__firstlineno__"), key := Value.str (Str.ofString "__firstlineno__") 583, val := Value.int 166 582 }, { hash := PyData.keyHash P (Str.ofString "put"), key := Value.str (Str.ofString "put") 593, val := Value.ref 320 }, { hash := PyData.keyHash P (Str.ofString "add"), key := Value.str (Str.ofString "add") 601, val := Value.ref 327 }, { hash := PyData.keyHash P (Str.ofString "drop"), key := Value.str (Str.ofString "drop") 609, val := Value.ref 334 }, { hash := PyData.keyHash P (Str.ofString "numbers"), key := Value.str (Str.ofString "numbers") 616, val := Value.ref 341 }, { hash := PyData.keyHash P (Str.ofString "root"), key := Value.str (Str.ofString "root") 624, val := Value.ref 348 }, { hash := PyData.keyHash P (Str.ofString "told"), key := Value.str (Str.ofString "told") 630, val := Value.ref 353 }, { hash := PyData.keyHash P (Str.ofString "__static_attributes__"), key := Value.str (Str.ofString "__static_attributes__") 631, val := Value.ref 354 }, { hash := PyData.keyHash P (Str.ofString "__doc__"), key := Value.str (Str.ofString "__doc__") 632, val := Value.none }] 2 }
noncomputable def o356 (P : Params) : Obj := { cls := Value.type "type", data := Data.cls { name := Str.ofString "Shelf", bases := [Value.ref 302], mro := [Value.ref 356, Value.ref 302, Value.type "object"], ns := 355, qualname := Str.ofString "Shelf" }, slots := #[Option.some (Value.ref 307), Option.none, Option.some (Value.str (Str.ofString "Shelf") 572), Option.some (Value.str (Str.ofString "Shelf") 580), Option.some (Value.builtin "object.__new__"), Option.some (Value.bool Bool.true)] }
noncomputable def o357 (P : Params) : Obj := { cls := Value.type "super", data := Data.fields #[Value.ref 356, Value.ref 356, Value.ref 356] }
noncomputable def o358 (P : Params) : Obj := { cls := Value.type "builtin_function_or_method", data := Data.fields #[Value.builtin "object.__init_subclass__", Value.ref 356] }
noncomputable def o359 (P : Params) : Obj := { cls := Value.type "tuple", data := Data.seq #[Value.str (Str.ofString "Page") 637, Value.str (Str.ofString "Pages") 638, Value.str (Str.ofString "Catalog") 639] }
noncomputable def o360 (P : Params) : Obj := { cls := Value.type "tuple", data := Data.seq #[] }
noncomputable def o361 (P : Params) : Obj := { cls := Value.none, data := Data.fields #[] }
noncomputable def o362 (P : Params) : Obj := { cls := Value.type "tuple", data := Data.seq #[Value.str (Str.ofString "value") 644] }
noncomputable def o363 (P : Params) : Obj := { cls := Value.type "tuple", data := Data.seq #[] }
noncomputable def o364 (P : Params) : Obj := { cls := Value.none, data := Data.func { name := Str.ofString "word_of", qualname := Str.ofString "word_of", params := parOf (stAt 21), body := .stmts (bodOf (stAt 21)), scope := scoOf (stAt 21), globals := 0, closure := [], defaults := Value.none, kwdefaults := Value.none } }
noncomputable def o365 (P : Params) : Obj := { cls := Value.type "code", data := Data.fields #[Value.str (Str.ofString "word_of") 641, Value.str (Str.ofString "word_of") 642, Value.str (Str.ofString "/claim/cut.py") 643, Value.int 189 0, Value.int 1 0, Value.int 0 0, Value.int 0 0, Value.int 3 0, Value.ref 360, Value.bool Bool.true, Value.int 181 0, Value.ref 361, Value.none, Value.ref 362, Value.ref 363, Value.ref 364, Value.int 645 0, Value.int 189 0, Value.str (Str.ofString "/claim/cut.py") 646] }
noncomputable def o366 (P : Params) : Obj := { cls := Value.type "function", data := Data.func { name := Str.ofString "word_of", qualname := Str.ofString "word_of", params := parOf (stAt 21), body := .stmts (bodOf (stAt 21)), scope := scoOf (stAt 21), globals := 3, closure := [], defaults := Value.none, kwdefaults := Value.none, pyModule := Value.str (Str.ofString "paperhold.gather") 635, code := Value.ref 365 } }
noncomputable def o367 (P : Params) : Obj := { cls := Value.type "tuple", data := Data.seq #[] }
noncomputable def o368 (P : Params) : Obj := { cls := Value.none, data := Data.fields #[] }
noncomputable def o369 (P : Params) : Obj := { cls := Value.type "tuple", data := Data.seq #[Value.str (Str.ofString "shelf") 651, Value.str (Str.ofString "firsts") 652, Value.str (Str.ofString "table") 653, Value.str (Str.ofString "number") 654, Value.str (Str.ofString "generation") 655, Value.str (Str.ofString "value") 656, Value.str (Str.ofString "key") 657] }
noncomputable def o370 (P : Params) : Obj := { cls := Value.type "tuple", data := Data.seq #[] }
noncomputable def o371 (P : Params) : Obj := { cls := Value.none, data := Data.func { name := Str.ofString "twins", qualname := Str.ofString "twins", params := parOf (stAt 22), body := .stmts (bodOf (stAt 22)), scope := scoOf (stAt 22), globals := 0, closure := [], defaults := Value.none, kwdefaults := Value.none } }
noncomputable def o372 (P : Params) : Obj := { cls := Value.type "code", data := Data.fields #[Value.str (Str.ofString "twins") 648, Value.str (Str.ofString "twins") 649, Value.str (Str.ofString "/claim/cut.py") 650, Value.int 193 0, Value.int 1 0, Value.int 0 0, Value.int 0 0, Value.int 3 0, Value.ref 367, Value.bool Bool.true, Value.int 181 0, Value.ref 368, Value.none, Value.ref 369, Value.ref 370, Value.ref 371, Value.int 658 0, Value.int 193 0, Value.str (Str.ofString "/claim/cut.py") 659] }
noncomputable def o373 (P : Params) : Obj := { cls := Value.type "function", data := Data.func { name := Str.ofString "twins", qualname := Str.ofString "twins", params := parOf (stAt 22), body := .stmts (bodOf (stAt 22)), scope := scoOf (stAt 22), globals := 3, closure := [], defaults := Value.none, kwdefaults := Value.none, pyModule := Value.str (Str.ofString "paperhold.gather") 635, code := Value.ref 372 } }
noncomputable def o374 (P : Params) : Obj := { cls := Value.type "tuple", data := Data.seq #[] }
noncomputable def o375 (P : Params) : Obj := { cls := Value.none, data := Data.fields #[] }
noncomputable def o376 (P : Params) : Obj := { cls := Value.type "tuple", data := Data.seq #[Value.str (Str.ofString "shelf") 664, Value.str (Str.ofString "made") 665, Value.str (Str.ofString "lap") 666, Value.str (Str.ofString "table") 667, Value.str (Str.ofString "names") 668, Value.str (Str.ofString "number") 669, Value.str (Str.ofString "pair") 670, Value.str (Str.ofString "left") 671, Value.str (Str.ofString "generation") 672, Value.str (Str.ofString "value") 673] }
noncomputable def o377 (P : Params) : Obj := { cls := Value.type "tuple", data := Data.seq #[] }
noncomputable def o378 (P : Params) : Obj := { cls := Value.none, data := Data.func { name := Str.ofString "joined_twins", qualname := Str.ofString "joined_twins", params := parOf (stAt 23), body := .stmts (bodOf (stAt 23)), scope := scoOf (stAt 23), globals := 0, closure := [], defaults := Value.none, kwdefaults := Value.none } }
noncomputable def o379 (P : Params) : Obj := { cls := Value.type "code", data := Data.fields #[Value.str (Str.ofString "joined_twins") 661, Value.str (Str.ofString "joined_twins") 662, Value.str (Str.ofString "/claim/cut.py") 663, Value.int 206 0, Value.int 1 0, Value.int 0 0, Value.int 0 0, Value.int 3 0, Value.ref 374, Value.bool Bool.true, Value.int 181 0, Value.ref 375, Value.none, Value.ref 376, Value.ref 377, Value.ref 378, Value.int 674 0, Value.int 206 0, Value.str (Str.ofString "/claim/cut.py") 675] }
noncomputable def o380 (P : Params) : Obj := { cls := Value.type "function", data := Data.func { name := Str.ofString "joined_twins", qualname := Str.ofString "joined_twins", params := parOf (stAt 23), body := .stmts (bodOf (stAt 23)), scope := scoOf (stAt 23), globals := 3, closure := [], defaults := Value.none, kwdefaults := Value.none, pyModule := Value.str (Str.ofString "paperhold.gather") 635, code := Value.ref 379 } }
noncomputable def o381 (P : Params) : Obj := { cls := Value.type "tuple", data := Data.seq #[] }
noncomputable def o382 (P : Params) : Obj := { cls := Value.none, data := Data.fields #[] }
noncomputable def o383 (P : Params) : Obj := { cls := Value.type "tuple", data := Data.seq #[Value.str (Str.ofString "script") 682, Value.str (Str.ofString "number") 683, Value.str (Str.ofString "cell") 684] }
noncomputable def o384 (P : Params) : Obj := { cls := Value.type "tuple", data := Data.seq #[] }
noncomputable def o385 (P : Params) : Obj := { cls := Value.none, data := Data.func { name := Str.ofString "_law_pen", qualname := Str.ofString "_law_pen", params := parOf (stAt 25), body := .stmts (bodOf (stAt 25)), scope := scoOf (stAt 25), globals := 0, closure := [], defaults := Value.none, kwdefaults := Value.none } }
noncomputable def o386 (P : Params) : Obj := { cls := Value.type "code", data := Data.fields #[Value.str (Str.ofString "_law_pen") 679, Value.str (Str.ofString "_law_pen") 680, Value.str (Str.ofString "/claim/cut.py") 681, Value.int 224 0, Value.int 1 0, Value.int 0 0, Value.int 0 0, Value.int 3 0, Value.ref 381, Value.bool Bool.true, Value.int 181 0, Value.ref 382, Value.none, Value.ref 383, Value.ref 384, Value.ref 385, Value.int 685 0, Value.int 224 0, Value.str (Str.ofString "/claim/cut.py") 686] }
noncomputable def o387 (P : Params) : Obj := { cls := Value.type "function", data := Data.func { name := Str.ofString "_law_pen", qualname := Str.ofString "_law_pen", params := parOf (stAt 25), body := .stmts (bodOf (stAt 25)), scope := scoOf (stAt 25), globals := 3, closure := [], defaults := Value.none, kwdefaults := Value.none, pyModule := Value.str (Str.ofString "law_nn0124_01") 677, code := Value.ref 386 } }
noncomputable def o388 (P : Params) : Obj := { cls := Value.type "tuple", data := Data.seq #[] }
noncomputable def o389 (P : Params) : Obj := { cls := Value.none, data := Data.fields #[] }
noncomputable def o390 (P : Params) : Obj := { cls := Value.type "tuple", data := Data.seq #[Value.str (Str.ofString "pen") 691, Value.str (Str.ofString "many") 692, Value.str (Str.ofString "digit") 693] }
noncomputable def o391 (P : Params) : Obj := { cls := Value.type "tuple", data := Data.seq #[] }
noncomputable def o392 (P : Params) : Obj := { cls := Value.none, data := Data.func { name := Str.ofString "_law_draw", qualname := Str.ofString "_law_draw", params := parOf (stAt 26), body := .stmts (bodOf (stAt 26)), scope := scoOf (stAt 26), globals := 0, closure := [], defaults := Value.none, kwdefaults := Value.none } }
noncomputable def o393 (P : Params) : Obj := { cls := Value.type "code", data := Data.fields #[Value.str (Str.ofString "_law_draw") 688, Value.str (Str.ofString "_law_draw") 689, Value.str (Str.ofString "/claim/cut.py") 690, Value.int 229 0, Value.int 2 0, Value.int 0 0, Value.int 0 0, Value.int 3 0, Value.ref 388, Value.bool Bool.true, Value.int 181 0, Value.ref 389, Value.none, Value.ref 390, Value.ref 391, Value.ref 392, Value.int 694 0, Value.int 229 0, Value.str (Str.ofString "/claim/cut.py") 695] }
noncomputable def o394 (P : Params) : Obj := { cls := Value.type "function", data := Data.func { name := Str.ofString "_law_draw", qualname := Str.ofString "_law_draw", params := parOf (stAt 26), body := .stmts (bodOf (stAt 26)), scope := scoOf (stAt 26), globals := 3, closure := [], defaults := Value.none, kwdefaults := Value.none, pyModule := Value.str (Str.ofString "law_nn0124_01") 677, code := Value.ref 393 } }
noncomputable def o395 (P : Params) : Obj := { cls := Value.type "tuple", data := Data.seq #[] }
noncomputable def o396 (P : Params) : Obj := { cls := Value.none, data := Data.fields #[] }
noncomputable def o397 (P : Params) : Obj := { cls := Value.none, data := Data.func { name := Str.ofString "_law_value", qualname := Str.ofString "_law_value", params := parOf (stAt 27), body := .stmts (bodOf (stAt 27)), scope := scoOf (stAt 27), globals := 0, closure := [], defaults := Value.none, kwdefaults := Value.none } }
noncomputable def o398 (P : Params) : Obj := { cls := Value.type "code", data := Data.fields #[Value.str (Str.ofString "_law_value") 697, Value.str (Str.ofString "_law_value") 698, Value.str (Str.ofString "/claim/cut.py") 699, Value.int 236 0, Value.int 2 0, Value.int 0 0, Value.int 0 0, Value.int 3 0, Value.ref 395, Value.bool Bool.true, Value.int 181 0, Value.ref 396, Value.none, Value.none, Value.none, Value.ref 397, Value.int 700 0, Value.int 236 0, Value.str (Str.ofString "/claim/cut.py") 701] }
noncomputable def o399 (P : Params) : Obj := { cls := Value.type "function", data := Data.func { name := Str.ofString "_law_value", qualname := Str.ofString "_law_value", params := parOf (stAt 27), body := .stmts (bodOf (stAt 27)), scope := scoOf (stAt 27), globals := 3, closure := [], defaults := Value.none, kwdefaults := Value.none, pyModule := Value.str (Str.ofString "law_nn0124_01") 677, code := Value.ref 398 } }
noncomputable def o400 (P : Params) : Obj := { cls := Value.type "tuple", data := Data.seq #[] }
noncomputable def o401 (P : Params) : Obj := { cls := Value.none, data := Data.fields #[] }
noncomputable def o402 (P : Params) : Obj := { cls := Value.type "tuple", data := Data.seq #[Value.str (Str.ofString "pen") 706, Value.str (Str.ofString "shelf") 707, Value.str (Str.ofString "number") 708] }
noncomputable def o403 (P : Params) : Obj := { cls := Value.type "tuple", data := Data.seq #[] }
noncomputable def o404 (P : Params) : Obj := { cls := Value.none, data := Data.func { name := Str.ofString "_law_shelf", qualname := Str.ofString "_law_shelf", params := parOf (stAt 28), body := .stmts (bodOf (stAt 28)), scope := scoOf (stAt 28), globals := 0, closure := [], defaults := Value.none, kwdefaults := Value.none } }
noncomputable def o405 (P : Params) : Obj := { cls := Value.type "code", data := Data.fields #[Value.str (Str.ofString "_law_shelf") 703, Value.str (Str.ofString "_law_shelf") 704, Value.str (Str.ofString "/claim/cut.py") 705, Value.int 250 0, Value.int 1 0, Value.int 0 0, Value.int 0 0, Value.int 3 0, Value.ref 400, Value.bool Bool.true, Value.int 181 0, Value.ref 401, Value.none, Value.ref 402, Value.ref 403, Value.ref 404, Value.int 709 0, Value.int 250 0, Value.str (Str.ofString "/claim/cut.py") 710] }
noncomputable def o406 (P : Params) : Obj := { cls := Value.type "function", data := Data.func { name := Str.ofString "_law_shelf", qualname := Str.ofString "_law_shelf", params := parOf (stAt 28), body := .stmts (bodOf (stAt 28)), scope := scoOf (stAt 28), globals := 3, closure := [], defaults := Value.none, kwdefaults := Value.none, pyModule := Value.str (Str.ofString "law_nn0124_01") 677, code := Value.ref 405 } }
noncomputable def o407 (P : Params) : Obj := { cls := Value.type "tuple", data := Data.seq #[] }
noncomputable def o408 (P : Params) : Obj := { cls := Value.none, data := Data.fields #[] }
noncomputable def o409 (P : Params) : Obj := { cls := Value.none, data := Data.func { name := Str.ofString "_law_unfolded", qualname := Str.ofString "_law_unfolded", params := parOf (stAt 29), body := .stmts (bodOf (stAt 29)), scope := scoOf (stAt 29), globals := 0, closure := [], defaults := Value.none, kwdefaults := Value.none } }
noncomputable def o410 (P : Params) : Obj := { cls := Value.type "code", data := Data.fields #[Value.str (Str.ofString "_law_unfolded") 712, Value.str (Str.ofString "_law_unfolded") 713, Value.str (Str.ofString "/claim/cut.py") 714, Value.int 257 0, Value.int 3 0, Value.int 0 0, Value.int 0 0, Value.int 3 0, Value.ref 407, Value.bool Bool.true, Value.int 181 0, Value.ref 408, Value.none, Value.none, Value.none, Value.ref 409, Value.int 715 0, Value.int 257 0, Value.str (Str.ofString "/claim/cut.py") 716] }
noncomputable def o411 (P : Params) : Obj := { cls := Value.type "function", data := Data.func { name := Str.ofString "_law_unfolded", qualname := Str.ofString "_law_unfolded", params := parOf (stAt 29), body := .stmts (bodOf (stAt 29)), scope := scoOf (stAt 29), globals := 3, closure := [], defaults := Value.none, kwdefaults := Value.none, pyModule := Value.str (Str.ofString "law_nn0124_01") 677, code := Value.ref 410 } }
noncomputable def o412 (P : Params) : Obj := { cls := Value.type "tuple", data := Data.seq #[] }
noncomputable def o413 (P : Params) : Obj := { cls := Value.none, data := Data.fields #[] }
noncomputable def o414 (P : Params) : Obj := { cls := Value.type "tuple", data := Data.seq #[Value.str (Str.ofString "value") 721] }
noncomputable def o415 (P : Params) : Obj := { cls := Value.type "tuple", data := Data.seq #[] }
noncomputable def o416 (P : Params) : Obj := { cls := Value.none, data := Data.func { name := Str.ofString "_law_is_page", qualname := Str.ofString "_law_is_page", params := parOf (stAt 30), body := .stmts (bodOf (stAt 30)), scope := scoOf (stAt 30), globals := 0, closure := [], defaults := Value.none, kwdefaults := Value.none } }
noncomputable def o417 (P : Params) : Obj := { cls := Value.type "code", data := Data.fields #[Value.str (Str.ofString "_law_is_page") 718, Value.str (Str.ofString "_law_is_page") 719, Value.str (Str.ofString "/claim/cut.py") 720, Value.int 270 0, Value.int 1 0, Value.int 0 0, Value.int 0 0, Value.int 3 0, Value.ref 412, Value.bool Bool.true, Value.int 181 0, Value.ref 413, Value.none, Value.ref 414, Value.ref 415, Value.ref 416, Value.int 722 0, Value.int 270 0, Value.str (Str.ofString "/claim/cut.py") 723] }
noncomputable def o418 (P : Params) : Obj := { cls := Value.type "function", data := Data.func { name := Str.ofString "_law_is_page", qualname := Str.ofString "_law_is_page", params := parOf (stAt 30), body := .stmts (bodOf (stAt 30)), scope := scoOf (stAt 30), globals := 3, closure := [], defaults := Value.none, kwdefaults := Value.none, pyModule := Value.str (Str.ofString "law_nn0124_01") 677, code := Value.ref 417 } }
noncomputable def o419 (P : Params) : Obj := { cls := Value.type "tuple", data := Data.seq #[] }
noncomputable def o420 (P : Params) : Obj := { cls := Value.none, data := Data.fields #[] }
noncomputable def o421 (P : Params) : Obj := { cls := Value.none, data := Data.func { name := Str.ofString "law", qualname := Str.ofString "law", params := parOf (stAt 31), body := .stmts (bodOf (stAt 31)), scope := scoOf (stAt 31), globals := 0, closure := [], defaults := Value.none, kwdefaults := Value.none } }
noncomputable def o422 (P : Params) : Obj := { cls := Value.type "code", data := Data.fields #[Value.str (Str.ofString "law") 725, Value.str (Str.ofString "law") 726, Value.str (Str.ofString "/claim/cut.py") 727, Value.int 272 0, Value.int 1 0, Value.int 0 0, Value.int 0 0, Value.int 3 0, Value.ref 419, Value.bool Bool.true, Value.int 181 0, Value.ref 420, Value.none, Value.none, Value.none, Value.ref 421, Value.int 728 0, Value.int 272 0, Value.str (Str.ofString "/claim/cut.py") 729] }
noncomputable def o423 (P : Params) : Obj := { cls := Value.type "function", data := Data.func { name := Str.ofString "law", qualname := Str.ofString "law", params := parOf (stAt 31), body := .stmts (bodOf (stAt 31)), scope := scoOf (stAt 31), globals := 3, closure := [], defaults := Value.none, kwdefaults := Value.none, pyModule := Value.str (Str.ofString "law_nn0124_01") 677, code := Value.ref 422 } }
noncomputable def L0 (P : Params) : List Obj := [o0 P, o1 P, o2 P, o3 P, o4 P, o5 P, o6 P, o7 P, o8 P, o9 P, o10 P]
noncomputable def L1 (P : Params) : List Obj := [o0 P, o1 P, o2 P, o3 P, o4 P, o5 P, o6 P, o7 P, o8 P, o9 P, o10 P, o11 P, o12 P, o13 P, o14 P]
noncomputable def L2 (P : Params) : List Obj := [o0 P, o1 P, o2v5 P, o3v5 P, o4 P, o5 P, o6 P, o7 P, o8 P, o9 P, o10 P, o11 P, o12v5 P, o13 P, o14 P, o15 P, o16 P, o17 P, o18 P, o19 P, o20 P, o21 P, o22 P, o23 P, o24 P, o25 P, o26 P, o27 P, o28 P, o29 P, o30 P, o31 P, o32 P, o33 P, o34 P, o35 P, o36 P, o37 P, o38 P, o39 P, o40 P, o41 P, o42 P, o43 P, o44 P, o45 P, o46 P, o47 P, o48 P, o49 P]
noncomputable def L3 (P : Params) : List Obj := [o0 P, o1 P, o2v5 P, o3v6 P, o4 P, o5 P, o6 P, o7 P, o8 P, o9 P, o10 P, o11 P, o12v6 P, o13 P, o14 P, o15 P, o16 P, o17 P, o18 P, o19 P, o20 P, o21 P, o22 P, o23 P, o24 P, o25 P, o26 P, o27 P, o28 P, o29 P, o30 P, o31 P, o32 P, o33 P, o34 P, o35 P, o36 P, o37 P, o38 P, o39 P, o40 P, o41 P, o42 P, o43 P, o44 P, o45 P, o46 P, o47 P, o48 P, o49 P, o50 P, o51 P, o52 P, o53 P, o54 P, o55 P, o56 P, o57 P, o58 P, o59 P, o60 P, o61 P, o62 P, o63 P, o64 P, o65 P, o66 P, o67 P, o68 P, o69 P, o70 P, o71 P, o72 P, o73 P, o74 P, o75 P, o76 P, o77 P, o78 P, o79 P, o80 P, o81 P, o82 P, o83 P, o84 P, o85 P, o86 P, o87 P, o88 P, o89 P, o90 P, o91 P, o92 P, o93 P, o94 P, o95 P, o96 P, o97 P, o98 P, o99 P, o100 P, o101 P, o102 P, o103 P, o104 P, o105 P, o106 P, o107 P, o108 P, o109 P, o110 P, o111 P, o112 P, o113 P, o114 P, o115 P, o116 P, o117 P, o118 P, o119 P, o120 P, o121 P, o122 P, o123 P, o124 P, o125 P, o126 P, o127 P, o128 P, o129 P, o130 P, o131 P, o132 P, o133 P, o134 P, o135 P, o136 P, o137 P, o138 P, o139 P, o140 P, o141 P, o142 P, o143 P, o144 P, o145 P, o146 P, o147 P]
noncomputable def L4 (P : Params) : List Obj := [o0 P, o1 P, o2v5 P, o3v12 P, o4 P, o5 P, o6 P, o7 P, o8 P, o9 P, o10 P, o11 P, o12v12 P, o13 P, o14 P, o15 P, o16 P, o17 P, o18 P, o19 P, o20 P, o21 P, o22 P, o23 P, o24 P, o25 P, o26 P, o27 P, o28 P, o29 P, o30 P, o31 P, o32 P, o33 P, o34 P, o35 P, o36 P, o37 P, o38 P, o39 P, o40 P, o41 P, o42 P, o43 P, o44 P, o45 P, o46 P, o47 P, o48 P, o49 P, o50 P, o51 P, o52 P, o53 P, o54 P, o55 P, o56 P, o57 P, o58 P, o59 P, o60 P, o61 P, o62 P, o63 P, o64 P, o65 P, o66 P, o67 P, o68 P, o69 P, o70 P, o71 P, o72 P, o73 P, o74 P, o75 P, o76 P, o77 P, o78 P, o79 P, o80 P, o81 P, o82 P, o83 P, o84 P, o85 P, o86 P, o87 P, o88 P, o89 P, o90 P, o91 P, o92 P, o93 P, o94 P, o95 P, o96 P, o97 P, o98 P, o99 P, o100 P, o101 P, o102 P, o103 P, o104 P, o105 P, o106 P, o107 P, o108 P, o109 P, o110 P, o111 P, o112 P, o113 P, o114 P, o115 P, o116 P, o117 P, o118 P, o119 P, o120 P, o121 P, o122 P, o123 P, o124 P, o125 P, o126 P, o127 P, o128 P, o129 P, o130 P, o131 P, o132 P, o133 P, o134 P, o135 P, o136 P, o137 P, o138 P, o139 P, o140 P, o141 P, o142 P, o143 P, o144 P, o145 P, o146 P, o147 P, o148 P, o149 P, o150 P, o151 P, o152 P, o153 P, o154 P, o155 P, o156 P, o157 P, o158 P, o159 P, o160 P, o161 P, o162 P, o163 P, o164 P, o165 P, o166 P, o167 P, o168 P, o169 P, o170 P, o171 P, o172 P, o173 P, o174 P, o175 P, o176 P, o177 P, o178 P, o179 P, o180 P, o181 P, o182 P, o183 P, o184 P, o185 P, o186 P, o187 P, o188 P, o189 P, o190 P, o191 P, o192 P, o193 P, o194 P, o195 P, o196 P, o197 P, o198 P, o199 P, o200 P, o201 P, o202 P, o203 P, o204 P, o205 P, o206 P, o207 P, o208 P, o209 P, o210 P, o211 P, o212 P, o213 P, o214 P, o215 P, o216 P, o217 P, o218 P]
noncomputable def L5 (P : Params) : List Obj := [o0 P, o1 P, o2v5 P, o3v19 P, o4 P, o5 P, o6 P, o7 P, o8 P, o9 P, o10 P, o11 P, o12v19 P, o13 P, o14 P, o15 P, o16 P, o17 P, o18 P, o19 P, o20 P, o21 P, o22 P, o23 P, o24 P, o25 P, o26 P, o27 P, o28 P, o29 P, o30 P, o31 P, o32 P, o33 P, o34 P, o35 P, o36 P, o37 P, o38 P, o39 P, o40 P, o41 P, o42 P, o43 P, o44 P, o45 P, o46 P, o47 P, o48 P, o49 P, o50 P, o51 P, o52 P, o53 P, o54 P, o55 P, o56 P, o57 P, o58 P, o59 P, o60 P, o61 P, o62 P, o63 P, o64 P, o65 P, o66 P, o67 P, o68 P, o69 P, o70 P, o71 P, o72 P, o73 P, o74 P, o75 P, o76 P, o77 P, o78 P, o79 P, o80 P, o81 P, o82 P, o83 P, o84 P, o85 P, o86 P, o87 P, o88 P, o89 P, o90 P, o91 P, o92 P, o93 P, o94 P, o95 P, o96 P, o97 P, o98 P, o99 P, o100 P, o101 P, o102 P, o103 P, o104 P, o105 P, o106 P, o107 P, o108 P, o109 P, o110 P, o111 P, o112 P, o113 P, o114 P, o115 P, o116 P, o117 P, o118 P, o119 P, o120 P, o121 P, o122 P, o123 P, o124 P, o125 P, o126 P, o127 P, o128 P, o129 P, o130 P, o131 P, o132 P, o133 P, o134 P, o135 P, o136 P, o137 P, o138 P, o139 P, o140 P, o141 P, o142 P, o143 P, o144 P, o145 P, o146 P, o147 P, o148 P, o149 P, o150 P, o151 P, o152 P, o153 P, o154 P, o155 P, o156 P, o157 P, o158 P, o159 P, o160 P, o161 P, o162 P, o163 P, o164 P, o165 P, o166 P, o167 P, o168 P, o169 P, o170 P, o171 P, o172 P, o173 P, o174 P, o175 P, o176 P, o177 P, o178 P, o179 P, o180 P, o181 P, o182 P, o183 P, o184 P, o185 P, o186 P, o187 P, o188 P, o189 P, o190 P, o191 P, o192 P, o193 P, o194 P, o195 P, o196 P, o197 P, o198 P, o199 P, o200 P, o201 P, o202 P, o203 P, o204 P, o205 P, o206 P, o207 P, o208 P, o209 P, o210 P, o211 P, o212 P, o213 P, o214 P, o215 P, o216 P, o217 P, o218 P, o219 P, o220 P, o221 P, o222 P, o223 P, o224 P, o225 P, o226 P, o227 P, o228 P, o229 P, o230 P, o231 P, o232 P, o233 P, o234 P, o235 P, o236 P, o237 P, o238 P, o239 P, o240 P, o241 P, o242 P, o243 P, o244 P, o245 P, o246 P, o247 P, o248 P, o249 P, o250 P, o251 P, o252 P, o253 P, o254 P, o255 P, o256 P, o257 P, o258 P, o259 P, o260 P, o261 P, o262 P, o263 P, o264 P, o265 P, o266 P, o267 P, o268 P, o269 P, o270 P, o271 P, o272 P, o273 P, o274 P, o275 P, o276 P, o277 P, o278 P, o279 P, o280 P, o281 P, o282 P, o283 P, o284 P, o285 P, o286 P, o287 P, o288 P, o289 P, o290 P, o291 P, o292 P, o293 P, o294 P, o295 P, o296 P, o297 P, o298 P, o299 P, o300 P, o301 P, o302 P, o303 P, o304 P, o305 P, o306 P]
noncomputable def L6 (P : Params) : List Obj := [o0 P, o1 P, o2v5 P, o3v33 P, o4 P, o5 P, o6 P, o7 P, o8 P, o9 P, o10 P, o11 P, o12v33 P, o13 P, o14 P, o15 P, o16 P, o17 P, o18 P, o19 P, o20 P, o21 P, o22 P, o23 P, o24 P, o25 P, o26 P, o27 P, o28 P, o29 P, o30 P, o31 P, o32 P, o33 P, o34 P, o35 P, o36 P, o37 P, o38 P, o39 P, o40 P, o41 P, o42 P, o43 P, o44 P, o45 P, o46 P, o47 P, o48 P, o49 P, o50 P, o51 P, o52 P, o53 P, o54 P, o55 P, o56 P, o57 P, o58 P, o59 P, o60 P, o61 P, o62 P, o63 P, o64 P, o65 P, o66 P, o67 P, o68 P, o69 P, o70 P, o71 P, o72 P, o73 P, o74 P, o75 P, o76 P, o77 P, o78 P, o79 P, o80 P, o81 P, o82 P, o83 P, o84 P, o85 P, o86 P, o87 P, o88 P, o89 P, o90 P, o91 P, o92 P, o93 P, o94 P, o95 P, o96 P, o97 P, o98 P, o99 P, o100 P, o101 P, o102 P, o103 P, o104 P, o105 P, o106 P, o107 P, o108 P, o109 P, o110 P, o111 P, o112 P, o113 P, o114 P, o115 P, o116 P, o117 P, o118 P, o119 P, o120 P, o121 P, o122 P, o123 P, o124 P, o125 P, o126 P, o127 P, o128 P, o129 P, o130 P, o131 P, o132 P, o133 P, o134 P, o135 P, o136 P, o137 P, o138 P, o139 P, o140 P, o141 P, o142 P, o143 P, o144 P, o145 P, o146 P, o147 P, o148 P, o149 P, o150 P, o151 P, o152 P, o153 P, o154 P, o155 P, o156 P, o157 P, o158 P, o159 P, o160 P, o161 P, o162 P, o163 P, o164 P, o165 P, o166 P, o167 P, o168 P, o169 P, o170 P, o171 P, o172 P, o173 P, o174 P, o175 P, o176 P, o177 P, o178 P, o179 P, o180 P, o181 P, o182 P, o183 P, o184 P, o185 P, o186 P, o187 P, o188 P, o189 P, o190 P, o191 P, o192 P, o193 P, o194 P, o195 P, o196 P, o197 P, o198 P, o199 P, o200 P, o201 P, o202 P, o203 P, o204 P, o205 P, o206 P, o207 P, o208 P, o209 P, o210 P, o211 P, o212 P, o213 P, o214 P, o215 P, o216 P, o217 P, o218 P, o219 P, o220 P, o221 P, o222 P, o223 P, o224 P, o225 P, o226 P, o227 P, o228 P, o229 P, o230 P, o231 P, o232 P, o233 P, o234 P, o235 P, o236 P, o237 P, o238 P, o239 P, o240 P, o241 P, o242 P, o243 P, o244 P, o245 P, o246 P, o247 P, o248 P, o249 P, o250 P, o251 P, o252 P, o253 P, o254 P, o255 P, o256 P, o257 P, o258 P, o259 P, o260 P, o261 P, o262 P, o263 P, o264 P, o265 P, o266 P, o267 P, o268 P, o269 P, o270 P, o271 P, o272 P, o273 P, o274 P, o275 P, o276 P, o277 P, o278 P, o279 P, o280 P, o281 P, o282 P, o283 P, o284 P, o285 P, o286 P, o287 P, o288 P, o289 P, o290 P, o291 P, o292 P, o293 P, o294 P, o295 P, o296 P, o297 P, o298 P, o299 P, o300 P, o301 P, o302v33 P, o303 P, o304 P, o305 P, o306 P, o307 P, o308 P, o309 P, o310 P, o311 P, o312 P, o313 P, o314 P, o315 P, o316 P, o317 P, o318 P, o319 P, o320 P, o321 P, o322 P, o323 P, o324 P, o325 P, o326 P, o327 P, o328 P, o329 P, o330 P, o331 P, o332 P, o333 P, o334 P, o335 P, o336 P, o337 P, o338 P, o339 P, o340 P, o341 P, o342 P, o343 P, o344 P, o345 P, o346 P, o347 P, o348 P, o349 P, o350 P, o351 P, o352 P, o353 P, o354 P, o355 P, o356 P, o357 P, o358 P, o359 P, o360 P, o361 P, o362 P, o363 P, o364 P, o365 P, o366 P, o367 P, o368 P, o369 P, o370 P, o371 P, o372 P, o373 P, o374 P, o375 P, o376 P, o377 P, o378 P, o379 P, o380 P, o381 P, o382 P, o383 P, o384 P, o385 P, o386 P, o387 P, o388 P, o389 P, o390 P, o391 P, o392 P, o393 P, o394 P, o395 P, o396 P, o397 P, o398 P, o399 P, o400 P, o401 P, o402 P, o403 P, o404 P, o405 P, o406 P, o407 P, o408 P, o409 P, o410 P, o411 P, o412 P, o413 P, o414 P, o415 P, o416 P, o417 P, o418 P, o419 P, o420 P, o421 P, o422 P, o423 P]
end
end
section -- HC
open PySem PySem.W PyProof.Rows
set_option maxRecDepth 1000000
set_option maxHeartbeats 0
noncomputable section
noncomputable def ofL (l : List Obj) : BT := (l.zipIdx).foldl (fun t x => t.ins x.2 x.1) .nil
noncomputable def env0 : Env := { scope := P0.main.scope, locals := mainNs, globals := mainNs, cells := [], code := .ref 13, frame := some 14 }
noncomputable def z0 : Pos := ⟨0, 0, 0, 0⟩
noncomputable def c0 : Code := .body (behindTheImports P0) env0
noncomputable def ann0 : Option Value := some (.ref 6)
noncomputable def S (L : Params → List Obj) (n tk : Nat) (w : World) (os : OsState) : SharedT := ⟨ofL (L w.params), n, {}, #[], {}, tk, os⟩
noncomputable def seg (a b : Nat) : List Stmt := (P0.main.body.drop a).take b
noncomputable def thr (l : List Stmt) (p : Pos) : Thread := ⟨(PySem.W.Fast.tw12563942051412417395 l env0).wrap doneF deadEnd id id, c0, p, [topFrame z0]⟩
noncomputable abbrev segF := PySem.W.Fast.tw10110043849684766642 PySem.W.Fast.tw14364793385576792824
theorem ch1 : ∀ (w : World) (os : OsState), segF P0 w 11 ann0 1 316 (S L1 15 187 w os) (thr (seg 0 4) z0) = some (.next, S L2 50 238 w os, c0, ⟨14, 0, 14, 8⟩) := by
  intro w os; kernel_rfl
theorem ch2 : ∀ (w : World) (os : OsState), segF P0 w 11 ann0 1 572 (S L2 50 238 w os) (thr (seg 4 1) ⟨14, 0, 14, 8⟩) = some (.next, S L3 148 352 w os, c0, ⟨15, 0, 59, 16⟩) := by
  intro w os; kernel_rfl
theorem ch3 : ∀ (w : World) (os : OsState), segF P0 w 11 ann0 1 719 (S L3 148 352 w os) (thr (seg 5 6) ⟨15, 0, 59, 16⟩) = some (.next, S L4 219 454 w os, c0, ⟨73, 0, 77, 28⟩) := by
  intro w os; kernel_rfl
theorem ch4 : ∀ (w : World) (os : OsState), segF P0 w 11 ann0 1 671 (S L4 219 454 w os) (thr (seg 11 7) ⟨73, 0, 77, 28⟩) = some (.next, S L5 307 572 w os, c0, ⟨147, 0, 165, 40⟩) := by
  intro w os; kernel_rfl
theorem ch5 : ∀ (w : World) (os : OsState), segF P0 w 11 ann0 1 800 (S L5 307 572 w os) (thr (seg 18 14) ⟨147, 0, 165, 40⟩) = some (.next, S L6 424 731 w os, c0, ⟨272, 0, 296, 84⟩) := by
  intro w os; kernel_rfl
end
end
section -- HE
open PySem PySem.W PyProof.Rows PySem.Calls
set_option maxRecDepth 1000000
set_option maxHeartbeats 0
noncomputable section
noncomputable def H0 (P : Params) : Heap := ⟨(L0 P).toArray, {}⟩
noncomputable def H1 (P : Params) : Heap := absHeap (ofL (L6 P)) 424 {}
noncomputable def Q0 : Program := view P0 [0, 2, 4, 5, 7, 8, 9, 10, 11, 12, 13, 14, 15, 16, 17, 18, 20, 21, 22, 23, 25, 26, 27, 28, 29, 30, 31]
noncomputable def lo0 : List Str := [Str.ofString "PaperError", Str.ofString "told_objects"]
noncomputable def S1 (w : World) (os : OsState) : Shared := ⟨H1 w.params, #[], {}, 731, os⟩
theorem opens : ∀ w : World, (fencedOpening treeTable P0 w 6142).map (fun s => (s.heap, s.gens, s.drawn, s.toks)) = some (H0 w.params, #[], {}, 181) := by
  intro w; kernel_rfl
theorem sized : ∀ w : World, ((H0 w.params).isNs mainGlobals && (#[] : Array GenState).size == 0, (H0 w.params).objs.size, (H0 w.params).nsMap mainGlobals "__annotations__") = (true, 11, ann0) := by
  intro w; kernel_rfl
theorem pre1 : ∀ (w : World) (os : OsState), topGo treeTable P0 w 11 ann0 12 ⟨H0 w.params, #[], {}, 181, os⟩ (topStub P0) = some ((S L1 15 187 w os).abs, ⟨denote treeTable (.body (behindTheImports P0) env0), c0, z0, [topFrame z0]⟩) := by
  intro w os; kernel_rfl
theorem block1 : ∀ (w : World) (os : OsState), segRun treeTable P0 w 11 ann0 1 1 (S L1 15 187 w os).abs (blockOf (behindTheImports P0) env0 c0 z0 [topFrame z0]) = some (.next, (S L1 15 187 w os).abs, c0, z0) := by
  intro w os; kernel_rfl
theorem fin1 : ∀ (w : World) (os : OsState), topRun treeTable P0 w 11 ann0 2 (S L6 424 731 w os).abs ⟨doneF .next, c0, ⟨272, 0, 296, 84⟩, [topFrame z0]⟩ = some (S L6 424 731 w os).abs := by
  intro w os; kernel_rfl
theorem bodies : behindTheImports P0 = seg 0 4 ++ (seg 4 1 ++ (seg 5 6 ++ (seg 11 7 ++ (seg 18 14 ++ [])))) := by kernel_rfl
theorem k1 : ∀ (w : World), (staticsOk (importedModules P0.main.body) (H0 w.params) (H1 w.params) && namesBound P0 (H1 w.params) && gensDone (S1 w default) && laidKept (H0 w.params) (H1 w.params)) = true := by
  intro w; kernel_rfl
end
end
section -- HF
open PySem PySem.W PyProof.Rows PySem.Calls
set_option maxRecDepth 1000000
set_option maxHeartbeats 0
noncomputable section
theorem l1 : ∀ (w : World) (os : OsState), seen ((recsOf Q0).map (·.name)) (ownsOf Q0) [] { S1 w os with gens := #[] } = expectedOf Q0 := by intro w os; kernel_rfl
theorem l2 : ∀ (w : World) (os : OsState), (S1 w os).heap.bltView = bltViewBooted := by intro w os; kernel_rfl
theorem l3 : ∀ (w : World) (os : OsState), ((S1 w os).heap.keysOk (looseW Q0 lo0) ((recsOf Q0).map (·.name)) ((litsOf Q0).map (·.1)) ((clssOf Q0 (looseW Q0 lo0)).map (·.name)) && (S1 w os).heap.accountedOkI (importedModules P0.main.body) && (S1 w os).heap.isNs mainGlobals && (S1 w os).heap.isNs builtinsNs && tablesOk Q0 (S1 w os).heap && (xlAt Q0 [] (S1 w os) && recOk [] (S1 w os)) && (if true then (S1 w os).gens.size == 0 else !leftWithCleanup (S1 w os).gens)) = true := by intro w os; kernel_rfl
theorem l4 : ∀ (w : World) (os : OsState), tabsOk Q0 (S1 w os) = true := by intro w os; kernel_rfl
theorem l5 : ∀ (w : World) (os : OsState), pinSeenD Q0 (drecsOf Q0) (S1 w os) = pinGoodD (drecsOf Q0) := by intro w os; kernel_rfl
theorem l6 : ∀ (w : World) (os : OsState), plainSeenE Q0 (looseW Q0 lo0) (S1 w os) = plainGoodE Q0 (looseW Q0 lo0) := by intro w os; kernel_rfl
theorem l7 : ∀ (w : World) (os : OsState), plainSeenD Q0 lo0 (S1 w os) = plainGoodD Q0 lo0 := by intro w os; kernel_rfl
theorem l8 : ∀ (w : World) (os : OsState), wideSeen Q0 (S1 w os) = wideGood Q0 := by intro w os; kernel_rfl
theorem l9 : ∀ (w : World) (os : OsState), clsSeenW Q0 lo0 (S1 w os) = clsGoodW Q0 lo0 := by intro w os; kernel_rfl
theorem looksO (w : World) (os : OsState) : openSeen Q0 lo0 (importedModules P0.main.body) (fun s => xlAt Q0 [] s && recOk [] s) true (S1 w os) = openGood Q0 lo0 := by
  unfold openSeen openGood
  rw [l1, l2, l3, l4, l5, l6, l7, l8, l9]
end
end
section -- HG1
open PySem PySem.W PyProof.Rows PySem.Calls
set_option maxRecDepth 1000000
set_option maxHeartbeats 0
noncomputable section
noncomputable def KA : List Addr := [2, 3, 15, 17, 18, 20, 21, 22, 29, 30, 32, 33, 35, 36, 37, 39, 40, 42, 43, 44, 45, 46, 47, 57, 59, 60, 62, 63, 64, 66, 67, 69, 70, 71, 73, 74, 76, 77, 78, 80, 81, 83, 84, 85, 87, 88, 90, 91, 92, 94, 95, 97, 98, 99, 101, 102, 104, 105, 106, 108, 109, 111, 112, 113, 115, 116, 118, 119, 120, 122, 123, 125, 126, 127, 129, 130, 132, 133, 134, 136, 137, 139, 140, 141, 142, 143, 144, 145, 148, 150, 151, 153, 154, 162, 164, 165, 167, 168, 169, 170, 171, 172, 173, 183, 184, 186, 187, 189, 190, 191, 192, 193, 194, 195, 205, 207, 208, 210, 211, 212, 213, 214, 215, 216, 226, 228, 229, 231, 232, 233, 235, 236, 238, 239, 240, 241, 242, 243, 244, 247, 249, 250, 252, 253, 254, 256, 257, 259, 260, 261, 264, 265, 266, 269, 270, 278, 279, 281, 282, 284, 285, 286, 288, 289, 291, 292, 293, 295, 296, 298, 299, 300, 301, 302, 303, 304, 307, 314, 316, 317, 319, 320, 321, 323, 324, 326, 327, 328, 330, 331, 333, 334, 335, 337, 338, 340, 341, 342, 344, 345, 347, 348, 349, 352, 353, 354, 355, 356, 359, 360, 362, 363, 365, 366, 367, 369, 370, 372, 373, 374, 376, 377, 379, 380, 381, 383, 384, 386, 387, 388, 390, 391, 393, 394, 395, 398, 399, 400, 402, 403, 405, 406, 407, 410, 411, 412, 414, 415, 417, 418, 419, 422, 423]
noncomputable def KK (P : Params) : Frag := [(2, o2v5 P), (3, o3v33 P), (15, o15 P), (17, o17 P), (18, o18 P), (20, o20 P), (21, o21 P), (22, o22 P), (29, o29 P), (30, o30 P), (32, o32 P), (33, o33 P), (35, o35 P), (36, o36 P), (37, o37 P), (39, o39 P), (40, o40 P), (42, o42 P), (43, o43 P), (44, o44 P), (45, o45 P), (46, o46 P), (47, o47 P), (57, o57 P), (59, o59 P), (60, o60 P), (62, o62 P), (63, o63 P), (64, o64 P), (66, o66 P), (67, o67 P), (69, o69 P), (70, o70 P), (71, o71 P), (73, o73 P), (74, o74 P), (76, o76 P), (77, o77 P), (78, o78 P), (80, o80 P), (81, o81 P), (83, o83 P), (84, o84 P), (85, o85 P), (87, o87 P), (88, o88 P), (90, o90 P), (91, o91 P), (92, o92 P), (94, o94 P), (95, o95 P), (97, o97 P), (98, o98 P), (99, o99 P), (101, o101 P), (102, o102 P), (104, o104 P), (105, o105 P), (106, o106 P), (108, o108 P), (109, o109 P), (111, o111 P), (112, o112 P), (113, o113 P), (115, o115 P), (116, o116 P), (118, o118 P), (119, o119 P), (120, o120 P), (122, o122 P), (123, o123 P), (125, o125 P), (126, o126 P), (127, o127 P), (129, o129 P), (130, o130 P), (132, o132 P), (133, o133 P), (134, o134 P), (136, o136 P), (137, o137 P), (139, o139 P), (140, o140 P), (141, o141 P), (142, o142 P), (143, o143 P), (144, o144 P), (145, o145 P), (148, o148 P), (150, o150 P), (151, o151 P), (153, o153 P), (154, o154 P), (162, o162 P), (164, o164 P), (165, o165 P), (167, o167 P), (168, o168 P), (169, o169 P), (170, o170 P), (171, o171 P), (172, o172 P), (173, o173 P), (183, o183 P), (184, o184 P), (186, o186 P), (187, o187 P), (189, o189 P), (190, o190 P), (191, o191 P), (192, o192 P), (193, o193 P), (194, o194 P), (195, o195 P), (205, o205 P), (207, o207 P), (208, o208 P), (210, o210 P), (211, o211 P), (212, o212 P), (213, o213 P), (214, o214 P), (215, o215 P), (216, o216 P), (226, o226 P), (228, o228 P), (229, o229 P), (231, o231 P), (232, o232 P), (233, o233 P), (235, o235 P), (236, o236 P), (238, o238 P), (239, o239 P), (240, o240 P), (241, o241 P), (242, o242 P), (243, o243 P), (244, o244 P), (247, o247 P), (249, o249 P), (250, o250 P), (252, o252 P), (253, o253 P), (254, o254 P), (256, o256 P), (257, o257 P), (259, o259 P), (260, o260 P), (261, o261 P), (264, o264 P), (265, o265 P), (266, o266 P), (269, o269 P), (270, o270 P), (278, o278 P), (279, o279 P), (281, o281 P), (282, o282 P), (284, o284 P), (285, o285 P), (286, o286 P), (288, o288 P), (289, o289 P), (291, o291 P), (292, o292 P), (293, o293 P), (295, o295 P), (296, o296 P), (298, o298 P), (299, o299 P), (300, o300 P), (301, o301 P), (302, o302v33 P), (303, o303 P), (304, o304 P), (307, o307 P), (314, o314 P), (316, o316 P), (317, o317 P), (319, o319 P), (320, o320 P), (321, o321 P), (323, o323 P), (324, o324 P), (326, o326 P), (327, o327 P), (328, o328 P), (330, o330 P), (331, o331 P), (333, o333 P), (334, o334 P), (335, o335 P), (337, o337 P), (338, o338 P), (340, o340 P), (341, o341 P), (342, o342 P), (344, o344 P), (345, o345 P), (347, o347 P), (348, o348 P), (349, o349 P), (352, o352 P), (353, o353 P), (354, o354 P), (355, o355 P), (356, o356 P), (359, o359 P), (360, o360 P), (362, o362 P), (363, o363 P), (365, o365 P), (366, o366 P), (367, o367 P), (369, o369 P), (370, o370 P), (372, o372 P), (373, o373 P), (374, o374 P), (376, o376 P), (377, o377 P), (379, o379 P), (380, o380 P), (381, o381 P), (383, o383 P), (384, o384 P), (386, o386 P), (387, o387 P), (388, o388 P), (390, o390 P), (391, o391 P), (393, o393 P), (394, o394 P), (395, o395 P), (398, o398 P), (399, o399 P), (400, o400 P), (402, o402 P), (403, o403 P), (405, o405 P), (406, o406 P), (407, o407 P), (410, o410 P), (411, o411 P), (412, o412 P), (414, o414 P), (415, o415 P), (417, o417 P), (418, o418 P), (419, o419 P), (422, o422 P), (423, o423 P)]
noncomputable def HK : Hook := kHook KK KA (fun _ => by kernel_rfl)
theorem looksK : ∀ (w : World) (os : OsState), KA.map (S1 w os).heap.get? = (KK w.params).map fun p => some p.2 := by intro w os; kernel_rfl
end
end
section -- HG2
open PySem PySem.W PyProof.Rows PySem.Calls
set_option maxRecDepth 1000000
set_option maxHeartbeats 400000
noncomputable section
theorem te1 : @segRunT = PySem.W.Fast.tw10110043849684766642 := PySem.W.Fast.te10110043849684766642
theorem te2 : treeTable = PySem.W.Fast.tw14364793385576792824 := PySem.W.Fast.te14364793385576792824
theorem te3 : @execs = PySem.W.Fast.tw12563942051412417395 := PySem.W.Fast.te12563942051412417395
theorem thr_eq (l : List Stmt) (p : Pos) : piecesOf l env0 c0 p [topFrame z0] = thr l p := congrArg (fun f => (⟨(f l env0).wrap doneF deadEnd id id, c0, p, [topFrame z0]⟩ : Thread)) te3
theorem seg_eq : @segRunT treeTable = segF := by
  have h : @segRunT treeTable = @segRunT PySem.W.Fast.tw14364793385576792824 := congrArg (@segRunT) te2
  exact h.trans (congrFun te1 _)
theorem tSeg {w : World} {n : Nat} {s : SharedT} {l : List Stmt} {p p' : Pos} {s' : SharedT} (h : segF P0 w 11 ann0 1 n s (thr l p) = some (.next, s', c0, p')) :
    segRun treeTable P0 w 11 ann0 1 n s.abs (piecesOf l env0 c0 p [topFrame z0]) = some (.next, s'.abs, c0, p') := by
  refine segRun_of ?_
  rw [thr_eq, seg_eq]
  exact h
end
end
section -- HG3
open PySem PySem.W PyProof.Rows PySem.Calls
set_option maxRecDepth 1000000
set_option maxHeartbeats 400000
noncomputable section
theorem S1_eq (w : World) (os : OsState) : (S L6 424 731 w os).abs = S1 w os := by kernel_rfl
theorem rt0 (w : World) (os : OsState) : topRun treeTable P0 w 11 ann0 2 (S L6 424 731 w os).abs (restOf [] env0 c0 ⟨272, 0, 296, 84⟩ [topFrame z0]) = some (S1 w os) := by
  rw [← S1_eq]; exact piece_nil (fin1 w os)
theorem rt5 (w : World) (os : OsState) : topRun treeTable P0 w 11 ann0 (800 + 2) (S L5 307 572 w os).abs (restOf (seg 18 14 ++ []) env0 c0 ⟨147, 0, 165, 40⟩ [topFrame z0]) = some (S1 w os) :=
  piece_app (tSeg (ch5 w os)) (rt0 w os)
theorem rt4 (w : World) (os : OsState) : topRun treeTable P0 w 11 ann0 (671 + (800 + 2)) (S L4 219 454 w os).abs (restOf (seg 11 7 ++ (seg 18 14 ++ [])) env0 c0 ⟨73, 0, 77, 28⟩ [topFrame z0]) = some (S1 w os) :=
  piece_app (tSeg (ch4 w os)) (rt5 w os)
theorem rt3 (w : World) (os : OsState) : topRun treeTable P0 w 11 ann0 (719 + (671 + (800 + 2))) (S L3 148 352 w os).abs (restOf (seg 5 6 ++ (seg 11 7 ++ (seg 18 14 ++ []))) env0 c0 ⟨15, 0, 59, 16⟩ [topFrame z0]) = some (S1 w os) :=
  piece_app (tSeg (ch3 w os)) (rt4 w os)
theorem rt2 (w : World) (os : OsState) : topRun treeTable P0 w 11 ann0 (572 + (719 + (671 + (800 + 2)))) (S L2 50 238 w os).abs (restOf (seg 4 1 ++ (seg 5 6 ++ (seg 11 7 ++ (seg 18 14 ++ [])))) env0 c0 ⟨14, 0, 14, 8⟩ [topFrame z0]) = some (S1 w os) :=
  piece_app (tSeg (ch2 w os)) (rt3 w os)
theorem rt1 (w : World) (os : OsState) : topRun treeTable P0 w 11 ann0 (316 + (572 + (719 + (671 + (800 + 2))))) (S L1 15 187 w os).abs (restOf (seg 0 4 ++ (seg 4 1 ++ (seg 5 6 ++ (seg 11 7 ++ (seg 18 14 ++ []))))) env0 c0 z0 [topFrame z0]) = some (S1 w os) :=
  piece_app (tSeg (ch1 w os)) (rt2 w os)
theorem rtB (w : World) (os : OsState) : topRun treeTable P0 w 11 ann0 (1 + (316 + (572 + (719 + (671 + (800 + 2)))))) (S L1 15 187 w os).abs ⟨denote treeTable (.body (behindTheImports P0) env0), c0, z0, [topFrame z0]⟩ = some (S1 w os) := by
  refine piece_block (block1 w os) ?_
  have h := rt1 w os
  rw [← bodies] at h
  exact h
theorem ranTop (w : World) (os : OsState) : topRun treeTable P0 w 11 ann0 (12 + (1 + (316 + (572 + (719 + (671 + (800 + 2))))))) ⟨H0 w.params, #[], {}, 181, os⟩ (topStub P0) = some (S1 w os) :=
  go_top (pre1 w os) (rtB w os)
end
end
section -- HG4
open PySem PySem.W PyProof.Rows PySem.Calls
set_option maxRecDepth 1000000
set_option maxHeartbeats 400000
noncomputable section
theorem leN : Nat.ble (12 + (1 + (316 + (572 + (719 + (671 + (800 + 2))))))) 6142 = true := by decide
theorem left0 : LeftO P0 Q0 lo0 (fun s => xlAt Q0 [] s && recOk [] s) HK.obs HK.val 6142 := by
  refine LeftO.of_pieces (H₀ := H0) (H₁ := H1) (gs₀ := #[]) (gs₁ := #[]) (d₀ := {}) (d₁ := {}) (k₀ := 181) (k₁ := 731) (m₀ := 11) (ann := ann0) opens sized ranTop leN (fun w => funext fun os => ?_)
  refine Prod.ext (k1 w) (Prod.ext ?_ ?_)
  · exact looksO w os
  · exact looksK w os
end
end
section -- W0
open PySem PySem.W PyProof.Rows PySem.Calls
set_option maxRecDepth 100000
noncomputable section
-- the law's text is well said, look by look (o_law would lay a twin of the whole program: 4 MB of olean)
noncomputable def lw : OpenLaw := Challenge.rw_nn0124_01
theorem wr1 : sreFenced lw.row.prog.main = true := by kernel_rfl
theorem wr3 : namesResolve lw.row.prog = true := by kernel_rfl
theorem wr7 : looksOpen lw.row.prog = true := by
  unfold looksOpen
  exact look_both (look_both (look_both (look_both (look_both wr1 (by kernel_rfl)) wr3) (by kernel_rfl)) (by kernel_rfl)) (by kernel_rfl)
theorem wr8 : lw.row.partSaid = true := by
  unfold OpenRow.partSaid
  exact look_both (look_both (look_both (look_both (look_both (look_both (look_both (look_both (look_both (look_both (look_both (look_both (look_both wr7 rfl) rfl) rfl) rfl) rfl) rfl) rfl) rfl) rfl) rfl) rfl) rfl) rfl
theorem wr : lw.row.wellSaid = true := by
  unfold OpenRow.wellSaid
  exact look_both (look_both wr8 (by kernel_rfl)) (by kernel_rfl)
theorem said0 : lw.wellSaid = true := by
  unfold OpenLaw.wellSaid
  exact look_both (look_both (look_both (look_both (look_both (look_both (look_both (look_both (look_both (look_both (look_both (look_both (look_both (look_both (look_both (look_both (look_both (look_both wr (by kernel_rfl)) (by kernel_rfl)) (by kernel_rfl)) (by kernel_rfl)) (by kernel_rfl)) (by kernel_rfl)) (by kernel_rfl)) (by kernel_rfl)) (by kernel_rfl)) (by kernel_rfl)) (by kernel_rfl)) (by kernel_rfl)) (by kernel_rfl)) (by kernel_rfl)) (by kernel_rfl)) (by kernel_rfl)) (by kernel_rfl)) (by kernel_rfl)
end
end
section -- F1
open PySem PySem.W PyProof.Rows PySem.Calls PySem.Spec
set_option maxRecDepth 100000
noncomputable abbrev Fz := Addr → Obj → Prop
noncomputable abbrev Cell := Addr × (Obj → Prop)
noncomputable def Le (I J : Fz) : Prop := ∀ a o, I a o → J a o
theorem Le.rfl {I : Fz} : Le I I := fun _ _ h => h
theorem Le.trans {I J K : Fz} (h : Le I J) (k : Le J K) : Le I K := fun a o x => k a o (h a o x)
structure St (h₀ : Heap) (I : Fz) (C : List Cell) (h : Heap) : Prop where
  base : ∀ a o, h₀.get? a = some o → I a o
  fz : ∀ a o, I a o → h.get? a = some o
  cs : ∀ p ∈ C, ∃ o, h.get? p.1 = some o ∧ p.2 o
  sep : ∀ p ∈ C, ∀ o, ¬ I p.1 o
  nd : (C.map (·.1)).Nodup
noncomputable def NsO (m : Str → Option Value) (o : Obj) : Prop := ∃ es ep, o.data = .dict es ep ∧ StrKeys es ∧ ∀ n, nsFind es n = m n
noncomputable def Loc (l : List (Str × Value)) : Obj → Prop := fun o => ∃ m, NsO m o ∧ ∀ x v, l.lookup x = some v → m x = some v
theorem ns_of {h : Heap} {a : Addr} {m : Str → Option Value} {o : Obj} (e : h.get? a = some o) (x : NsO m o) : h.Ns a m :=
  let ⟨es, ep, a1, a2, a3⟩ := x; ⟨o, es, ep, e, a1, a2, a3⟩
theorem of_ns {h : Heap} {a : Addr} {m : Str → Option Value} (x : h.Ns a m) : ∃ o, h.get? a = some o ∧ NsO m o :=
  let ⟨o, es, ep, e, a1, a2, a3⟩ := x; ⟨o, e, es, ep, a1, a2, a3⟩
section
variable {h₀ h h' : Heap} {I J : Fz} {C D : List Cell} {c d : Cell} {a : Addr} {P P' : Obj → Prop}
theorem St.keep (S : St h₀ I C h) : ∀ b o, h₀.get? b = some o → h.get? b = some o := fun b o e => S.fz b o (S.base b o e)
theorem St.tail (S : St h₀ I (c :: C) h) : St h₀ I C h :=
  ⟨S.base, S.fz, fun p hp => S.cs p (.tail _ hp), fun p hp => S.sep p (.tail _ hp), (List.nodup_cons.mp (show (c.1 :: C.map (·.1)).Nodup from S.nd)).2⟩
theorem St.perm (S : St h₀ I C h) (p : C.Perm D) : St h₀ I D h :=
  ⟨S.base, S.fz, fun q hq => S.cs q (p.mem_iff.mpr hq), fun q hq => S.sep q (p.mem_iff.mpr hq), (p.map _).nodup_iff.mp S.nd⟩
theorem St.swap (S : St h₀ I (c :: d :: C) h) : St h₀ I (d :: c :: C) h := S.perm (List.Perm.swap d c C)
theorem St.skip (S : St h₀ I (c :: d :: C) h) : St h₀ I (c :: C) h := S.swap.tail
theorem St.head (S : St h₀ I ((a, P) :: C) h) : ∃ o, h.get? a = some o ∧ P o := S.cs _ (.head _)
theorem St.off (S : St h₀ I ((a, P) :: C) h) : ∀ p ∈ C, p.1 ≠ a := fun p hp e => by
  exact (List.nodup_cons.mp (show (a :: C.map (·.1)).Nodup from S.nd)).1 (List.mem_map.mpr ⟨p, hp, e⟩)
theorem St.ext (S : St h₀ I C h) (k : ∀ b o, h.get? b = some o → h'.get? b = some o) : St h₀ I C h' :=
  ⟨S.base, fun b o e => k b o (S.fz b o e), fun p hp => let ⟨o, e, x⟩ := S.cs p hp; ⟨o, k _ _ e, x⟩, S.sep, S.nd⟩
theorem St.same (S : St h₀ I ((a, P) :: C) h) (k : Heap.ExtBut a h h') (x : ∃ o, h'.get? a = some o ∧ P' o) : St h₀ I ((a, P') :: C) h' := by
  refine ⟨S.base, fun b o e => k b o (fun q => S.sep _ (.head _) o (q ▸ e)) (S.fz b o e), fun p hp => ?_, fun p hp => ?_, S.nd⟩
  · rcases List.mem_cons.mp hp with rfl | hp
    · exact x
    · obtain ⟨o, e, y⟩ := S.cs p (.tail _ hp); exact ⟨o, k _ _ (S.off p hp) e, y⟩
  · rcases List.mem_cons.mp hp with rfl | hp
    · exact S.sep (a, P) (.head _)
    · exact S.sep p (.tail _ hp)
theorem St.mono (S : St h₀ I ((a, P) :: C) h) (k : ∀ o, P o → P' o) : St h₀ I ((a, P') :: C) h :=
  S.same (fun _ _ _ e => e) (let ⟨o, e, x⟩ := S.head; ⟨o, e, k o x⟩)
theorem St.drop (S : St h₀ I ((a, P) :: C) h) (k : Heap.ExtBut a h h') : St h₀ I C h' := by
  refine ⟨S.base, fun b o e => k b o (fun q => S.sep _ (.head _) o (q ▸ e)) (S.fz b o e), fun p hp => ?_, S.tail.sep, S.tail.nd⟩
  obtain ⟨o, e, y⟩ := S.cs p (.tail _ hp); exact ⟨o, k _ _ (S.off p hp) e, y⟩
theorem St.fresh (S : St h₀ I C h) (n : h.get? a = none) (k : ∀ b o, h.get? b = some o → h'.get? b = some o) (x : ∃ o, h'.get? a = some o ∧ P o) : St h₀ I ((a, P) :: C) h' := by
  refine ⟨S.base, fun b o e => k b o (S.fz b o e), fun p hp => ?_, fun p hp => ?_, ?_⟩
  · rcases List.mem_cons.mp hp with rfl | hp
    · exact x
    · obtain ⟨o, e, y⟩ := S.cs p hp; exact ⟨o, k _ _ e, y⟩
  · rcases List.mem_cons.mp hp with rfl | hp
    · intro o e; have := S.fz _ _ e; rw [n] at this; cases this
    · exact S.sep p hp
  · rw [List.map_cons, List.nodup_cons]
    refine ⟨fun q => ?_, S.nd⟩
    obtain ⟨p, hp, e⟩ := List.mem_map.mp q
    obtain ⟨o, e', _⟩ := S.cs p hp
    have e2 : p.1 = a := e
    rw [e2, n] at e'; cases e'
theorem size_none (h : Heap) : h.get? h.objs.size = none := by
  cases q : h.get? h.objs.size with
  | none => rfl
  | some o => exact absurd (Heap.lt_size q) (Nat.lt_irrefl _)
theorem St.push (S : St h₀ I C h) {o : Obj} (x : P o) (hf : o.isFreed = false := by rfl) : St h₀ I ((h.objs.size, P) :: C) (h.push o) :=
  S.fresh (size_none h) (fun _ _ e => Heap.get?_push_of_some _ e) ⟨o, Heap.get?_push_size _ hf, x⟩
noncomputable def Add (I : Fz) (a : Addr) (o : Obj) : Fz := fun b x => I b x ∨ (b = a ∧ x = o)
theorem Add.le {o : Obj} : Le I (Add I a o) := fun _ _ h => .inl h
theorem Add.new {o : Obj} : Add I a o a o := .inr ⟨rfl, rfl⟩
theorem St.freeze (S : St h₀ I ((a, P) :: C) h) : ∃ o, P o ∧ St h₀ (Add I a o) C h := by
  obtain ⟨o, e, x⟩ := S.head
  refine ⟨o, x, fun b y q => .inl (S.base b y q), fun b y q => ?_, S.tail.cs, fun p hp y q => ?_, S.tail.nd⟩
  · rcases q with q | ⟨rfl, rfl⟩
    · exact S.fz b y q
    · exact e
  · rcases q with q | ⟨q, _⟩
    · exact S.tail.sep p hp y q
    · exact S.off p hp q
theorem St.pushFz (S : St h₀ I C h) (o : Obj) (hf : o.isFreed = false := by rfl) : St h₀ (Add I h.objs.size o) C (h.push o) := by
  obtain ⟨o', e, S'⟩ := (S.push (P := fun x => x = o) rfl hf).freeze
  subst e; exact S'
theorem St.ns {l : List (Str × Value)} (S : St h₀ I ((a, Loc l) :: C) h) : ∃ m, h.Ns a m ∧ ∀ x v, l.lookup x = some v → m x = some v := let ⟨_, e, m, x, y⟩ := S.head; ⟨m, ns_of e x, y⟩
theorem loc_of {l : List (Str × Value)} {m : Str → Option Value} (n : h.Ns a m) (y : ∀ x v, l.lookup x = some v → m x = some v) : ∃ o, h.get? a = some o ∧ Loc l o := let ⟨o, e, x⟩ := of_ns n; ⟨o, e, m, x, y⟩
theorem loc_store {l : List (Str × Value)} {m : Str → Option Value} {x : Str} {v : Value} (n : h.Ns a (fun y => if y = x then some v else m y)) (k : ∀ x v, l.lookup x = some v → m x = some v) : ∃ o, h.get? a = some o ∧ Loc ((x, v) :: l) o := by
  refine loc_of n fun y u e => ?_
  rw [List.lookup_cons] at e
  show (if y = x then some v else m y) = some u
  by_cases h : y = x
  · subst h; simpa using e
  · have : (y == x) = false := by simpa using h
    rw [this] at e
    rw [if_neg h]; exact k _ _ e
theorem Loc.drop {l : List (Str × Value)} {x : Str} {v : Value} {o : Obj} (y : Loc ((x, v) :: l) o) (h : l.lookup x = none) : Loc l o := by
  obtain ⟨m, a, k⟩ := y
  refine ⟨m, a, fun z u e => k z u ?_⟩
  rw [List.lookup_cons]
  have : (z == x) = false := by
    cases q : (z == x) with
    | false => rfl
    | true => rw [beq_iff_eq.mp q, h] at e; cases e
  rw [this]; exact e
theorem Loc.nil {l : List (Str × Value)} {o : Obj} (y : Loc l o) : Loc [] o := let ⟨m, a, k⟩ := y; ⟨m, a, fun _ _ e => by cases e⟩
end
/-- what the surroundings leave as room -/
structure Rm (A : Around) (n : Nat) : Prop where
  hd : A.handled = none
  gd : A.guards = some []
  dp : A.depth + n ≤ 900
  un : A.units + 8 * n ≤ 9000
theorem Rm.less {A : Around} {n k : Nat} (r : Rm A n) (h : k ≤ n) : Rm A k := ⟨r.hd, r.gd, by have := r.dp; omega, by have := r.un; omega⟩
theorem Rm.in1 {A : Around} {n : Nat} (r : Rm A (n + 1)) : Rm A.in1 n := ⟨r.hd, r.gd, by have := r.dp; show A.depth + n ≤ 900; omega, by have := r.un; show A.units + 1 + 8 * n ≤ 9000; omega⟩
theorem Rm.deeper {A : Around} {n : Nat} {env : Env} (r : Rm A (n + 1)) : Rm (A.deeper env) n :=
  ⟨r.hd, r.gd, by have := r.dp; rw [depth_deeper]; omega, by have := r.un; rw [units_deeper]; omega⟩
theorem Rm.room {A : Around} {n : Nat} (r : Rm A n) : A.depth < recursionLimit := by have := r.dp; show A.depth < 1000; omega
theorem Rm.un' {A : Around} {n : Nat} (r : Rm A n) : A.units + 800 < cLine := by have := r.un; show A.units + 800 < 9900; omega
theorem Rm.un0 {A : Around} {n : Nat} (r : Rm A n) : A.units < cLine := by have := r.un'; omega
end
section -- F2
open PySem PySem.W PyProof.Rows PySem.Calls PySem.Spec
set_option maxRecDepth 100000
structure Wd (K : Frag) (h₀ : Heap) : Prop where
  X : K.In h₀
  top : ∃ mg mb, h₀.Ns mainGlobals mg ∧ h₀.Ns builtinsNs mb ∧ ∀ x : Str, x ≠ "__name__" → mb x = bootBuiltins x
  nl : h₀.NoLimit
structure Bs where
  gens : Array GenState
  drawn : Drawn
  os : OsState
noncomputable def sh (b : Bs) (h : Heap) (tk : Nat) : Shared := ⟨h, b.gens, b.drawn, tk, b.os⟩
noncomputable def CellF (I : Fz) (c : Addr) (v : Value) : Prop := ∃ o, I c o ∧ o.data = .cell (some v)
theorem CellF.le {I J : Fz} {c : Addr} {v : Value} (x : CellF I c v) (k : Le I J) : CellF J c v := let ⟨o, a, b⟩ := x; ⟨o, k _ _ a, b⟩
section
variable {M : Model} {A : Around} {E : Value → Shared → Prop} {b : Bs} {h : Heap} {tk : Nat} {K : Frag} {h₀ : Heap} {I : Fz} {C : List Cell} {env : Env} {l : List (Str × Value)} {x : Str} {pos : Pos} {v : Value} {c : Addr}
  {Q : Value → Shared → Prop}
theorem St.Kin (S : St h₀ I C h) (W : Wd K h₀) : K.In h := W.X.keeps S.keep
theorem nmL (S : St h₀ I ((env.locals, Loc l) :: C) h) (hv : l.lookup x = some v) (hq : Q v (sh b h tk)) (hk : env.scope.kind = .function) (hx : env.kindOf x = some .local)
    (hd : (x == ("__debug__" : Str)) = false) : wpAny M A (eval (.Name x pos) env) Q E (sh b h tk) := (let ⟨m, n, y⟩ := S.ns; wpAny_Name (wpAny_loadName_local hk hx n (y _ _ hv) hq) hd)
theorem nmC (S : St h₀ I C h) (hc : CellF I c v) (hl : env.cells.lookup x = some c) (hq : Q v (sh b h tk)) (hk : env.scope.kind = .function) (hx : env.kindOf x = some .cell)
    (hd : (x == ("__debug__" : Str)) = false) : wpAny M A (eval (.Name x pos) env) Q E (sh b h tk) :=
  wpAny_Name (wpAny_loadName_cell hk hx hl (let ⟨o, a, b⟩ := hc; ⟨o, S.fz _ _ a, b⟩) hq) hd
theorem nmG (W : Wd K h₀) (S : St h₀ I C h) (e : nsIn K mainGlobals x = some (some v)) (hq : Q v (sh b h tk)) (hk : env.scope.kind = .function) (hx : env.kindOf x = some .globalImplicit) (hg : env.globals = mainGlobals)
    (hd : (x == ("__debug__" : Str)) = false) : wpAny M A (eval (.Name x pos) env) Q E (sh b h tk) := by
  obtain ⟨mg, mb, a, b, d⟩ := W.top
  exact Name_function_global hk hx (loadGlobal_global (by rw [hg]; exact a.keeps S.keep) (mg_of W.X a e) hq) hd
theorem nmB (W : Wd K h₀) (S : St h₀ I C h) (e : nsIn K mainGlobals x = some none) (hv : bootBuiltins x = some v) (hn : x ≠ "__name__") (hq : Q v (sh b h tk)) (hk : env.scope.kind = .function) (hx : env.kindOf x = some .globalImplicit)
    (hg : env.globals = mainGlobals) (hb : env.builtins = builtinsNs) (hd : (x == ("__debug__" : Str)) = false) : wpAny M A (eval (.Name x pos) env) Q E (sh b h tk) := by
  obtain ⟨mg, mb, a, b, d⟩ := W.top
  exact Name_function_global hk hx (loadGlobal_builtin (by rw [hg]; exact a.keeps S.keep) (mg_none_of W.X a e) (by rw [hb]; exact b.keeps S.keep) ((d x hn).trans hv) hq) hd
theorem stL {Q : Unit → Shared → Prop} (S : St h₀ I ((env.locals, Loc l) :: C) h)
    (hq : ∀ h' tk', St h₀ I ((env.locals, Loc ((x, v) :: l)) :: C) h' → Q () (sh b h' tk'))
    (hk : env.scope.kind = .function) (hx : env.kindOf x = some .local) : wpAny M A (storeName env x v) Q E (sh b h tk) :=
  (let ⟨m, n, y⟩ := S.ns; wpAny_storeName_local hx n (fun h' hn hs => hq h' _ (S.same hs.extBut (loc_store hn y))) (by rw [hk]; rfl))
end
end
section -- F3
open PySem PySem.W PyProof.Rows PySem.Calls PySem.Spec
set_option maxRecDepth 100000
noncomputable def fdR (n q : String) (st : Stmt) (dV pm : Value) (c : Addr) : FuncData :=
  { name := Str.ofString n, qualname := Str.ofString q, params := parOf st, body := .stmts (bodOf st), scope := scoOf st, globals := 3, closure := [], defaults := dV, kwdefaults := .none, pyModule := pm, code := .ref c }
noncomputable def envP (q : String) (st : Stmt) (L f c : Addr) (cells : List (Str × Addr)) : Env :=
  { scope := scoOf st, locals := L, globals := mainGlobals, cells := cells, qual := Str.ofString q ++ ".<locals>.", func := some f, code := .ref c, frame := some L, builtins := builtinsNs }
noncomputable def FnAt (K : Frag) (f : Addr) (n q : String) (st : Stmt) (dV : Value) (c : Addr) : Prop :=
  (∃ pm, K.lookup f = some ⟨.type "function", none, .func (fdR n q st dV pm c), #[]⟩) ∧ codeIn K (.ref c) (Str.ofString q) = true
noncomputable def retOf : Flow → Value | .ret v => v | _ => .none
noncomputable def CellO (v : Option Value) : Obj → Prop := fun o => o.data = .cell v
theorem St.freshes {h₀ h h' : Heap} {I : Fz} {C : List Cell} (S : St h₀ I C h) (k : ∀ b o, h.get? b = some o → h'.get? b = some o) (l : List Cell) (hl : ∀ p ∈ l, h.get? p.1 = none ∧ ∃ o, h'.get? p.1 = some o ∧ p.2 o)
    (nd : (l.map (·.1)).Nodup) : St h₀ I (l ++ C) h' := by
  refine ⟨S.base, fun b o e => k b o (S.fz b o e), fun p hp => ?_, fun p hp o e => ?_, ?_⟩
  · rcases List.mem_append.mp hp with hp | hp
    · exact (hl p hp).2
    · obtain ⟨o, e, y⟩ := S.cs p hp; exact ⟨o, k _ _ e, y⟩
  · rcases List.mem_append.mp hp with hp | hp
    · have := S.fz _ _ e; rw [(hl p hp).1] at this; cases this
    · exact S.sep p hp o e
  · rw [List.map_append, List.nodup_append]
    refine ⟨nd, S.nd, fun a ha b hb e => ?_⟩
    obtain ⟨p, hp, rfl⟩ := List.mem_map.mp ha
    obtain ⟨q, hq, rfl⟩ := List.mem_map.mp hb
    obtain ⟨o, e', _⟩ := S.cs q hq
    rw [← e, (hl p hp).1] at e'; cases e'
noncomputable def locB (kd : Str → Option NameKind) (binds : List (Str × Value)) : List (Str × Value) := (binds.filter fun x => kd x.1 == some .local).reverse
theorem bindL_eq (kd : Str → Option NameKind) : ∀ (binds : List (Str × Value)) (m : Str → Option Value), bindL kd binds m = fun y => ((locB kd binds).lookup y).or (m y)
  | [], m => by funext y; simp [bindL, locB]
  | (n, v) :: r, m => by
    rw [bindL, bindL_eq kd r]
    funext y
    unfold locB
    by_cases h : kd n = some .local
    · simp only [h, if_true, beq_self_eq_true, List.filter_cons_of_pos, List.reverse_cons, List.lookup_append, List.lookup_cons, List.lookup_nil]
      by_cases hy : y = n
      · subst hy; simp
      · have : (y == n) = false := by simpa using hy
        simp [this, hy]
    · have : (kd n == some .local) = false := by simpa using h
      simp [h, this]
section
variable {prog : Program} {w : World} {A : Around} {E : Value → Shared → Prop} {b : Bs} {h : Heap} {tk : Nat} {K : Frag} {h₀ : Heap} {I : Fz} {C : List Cell} {Q : Value → Shared → Prop} {f c : Addr} {n q : String} {st : Stmt} {dV : Value} {k : Nat}
  {args : List Value} {kw : List (Str × Value)} {binds : List (Str × Value)}
/-- a call of a def whose names are all plain locals -/
theorem callP (W : Wd K h₀) (R : Rm A (k + 1)) (S : St h₀ I C h) (hF : FnAt K f n q st dV c) (hbind : ∀ pm, BindsTo (sh b h tk) (fdR n q st dV pm c) ⟨args, kw⟩ binds)
    (hloc : (binds.all fun x => decide ((scoOf st).names.lookup x.1 = some .local)) = true) (hcell : ((scoOf st).names.all fun x => x.2 != .cell) = true)
    (hco : (scoOf st).isCoroutine = false) (hgen : (scoOf st).isGenerator = false) (hk : (scoOf st).kind = .function)
    (hq : ∀ A' L h₁ tk', Rm A' k → St h₀ I ((L, Loc binds.reverse) :: C) h₁ →
      wpAny (model prog w) A' (execs (bodOf st) (envP q st L f c [])) (fun fl s' => Q (retOf fl) s') (fun _ _ => False) (sh b h₁ tk')) :
    wpAny (model prog w) A (call (.ref f) args kw) Q E (sh b h tk) := by
  obtain ⟨⟨pm, ho⟩, hcd⟩ := hF
  refine wpAny_call ?_
  refine codeAny_call_def (fd := fdR n q st dV pm c) (body := bodOf st) (binds := binds) R.room (S.Kin W _ _ ho) rfl (W.nl.keeps S.keep) (codeRec_of (S.Kin W) hcd) rfl (hbind pm)
    (fun x hx => by simpa using List.all_eq_true.mp hcell x hx) (locs hloc) (fun h₁ hns hk₁ => ?_) hco hgen hk
  have S₁ : St h₀ I ((h.objs.size, Loc binds.reverse) :: C) h₁ := S.fresh (size_none _) hk₁ (loc_of hns fun _ _ e => e)
  refine wpAny_mono (hq (A.deeper (callEnv (fdR n q st dV pm c) h.objs.size f)) h.objs.size h₁ (tk + binds.length) R.deeper S₁) (fun fl s' z => ?_) fun _ _ z => z.elim
  cases fl <;> exact z
/-- a call of a def with cells -/
theorem callC (W : Wd K h₀) (R : Rm A (k + 1)) (S : St h₀ I C h) (hF : FnAt K f n q st dV c) (hbind : ∀ pm, BindsTo (sh b h tk) (fdR n q st dV pm c) ⟨args, kw⟩ binds)
    (hkind : (binds.all fun y => (scoOf st).names.lookup y.1 == some .local || (scoOf st).names.lookup y.1 == some .cell) = true)
    (hnd : ((cellsFrom 0 (scoOf st).names []).map (·.1)).Nodup)
    (hco : (scoOf st).isCoroutine = false) (hgen : (scoOf st).isGenerator = false) (hk : (scoOf st).kind = .function)
    (hq : ∀ A' L h₁ tk', Rm A' k → St h₀ I ((L, Loc (locB (fun x => (scoOf st).names.lookup x) binds)) :: ((cellsFrom (L + 1) (scoOf st).names []).map fun x => (x.2, CellO (bindC (fun x => (scoOf st).names.lookup x) binds (fun _ => none) x.1))) ++ C) h₁ →
      wpAny (model prog w) A' (execs (bodOf st) (envP q st L f c (cellsFrom (L + 1) (scoOf st).names []))) (fun fl s' => Q (retOf fl) s') (fun _ _ => False) (sh b h₁ tk')) :
    wpAny (model prog w) A (call (.ref f) args kw) Q E (sh b h tk) := by
  obtain ⟨⟨pm, ho⟩, hcd⟩ := hF
  refine wpAny_call ?_
  refine codeAny_call_function (fd := fdR n q st dV pm c) (body := bodOf st) R.room (S.Kin W _ _ ho) rfl hco hgen rfl (codeRec_of (S.Kin W) hcd) (hbind pm _ _ _ _ ?_)
  refine wpAny_newFunctionEnv_cells hk (kindsX hkind _) fun env he s' x => ?_
  subst he
  refine ⟨(W.nl.keeps S.keep).keeps x.toInCall.keep, codeAny_func ?_⟩
  obtain ⟨h₁, tk', rfl, _⟩ := x.done
  have hk₁ : ∀ b o, h.get? b = some o → h₁.get? b = some o := x.toInCall.keep
  have hcn : ((cellsFrom (h.objs.size + 1) (scoOf st).names []).map (·.1)).Nodup := cellsFrom_names (scoOf st).names 0 (h.objs.size + 1) [] [] rfl ▸ hnd
  have S₁ : St h₀ I (((h.objs.size, Loc (locB (fun x => (scoOf st).names.lookup x) binds)) :: ((cellsFrom (h.objs.size + 1) (scoOf st).names []).map fun x => (x.2, CellO (bindC (fun x => (scoOf st).names.lookup x) binds (fun _ => none) x.1)))) ++ C) h₁ := by
    refine S.freshes hk₁ _ (fun p hp => ?_) ?_
    · rcases List.mem_cons.mp hp with rfl | hp
      · refine ⟨size_none _, ?_⟩
        have hb : bindL (fun x => (scoOf st).names.lookup x) binds (fun _ => none) = fun y => (locB (fun x => (scoOf st).names.lookup x) binds).lookup y := by
          rw [bindL_eq]; funext y; simp
        have hn : h₁.Ns h.objs.size (bindL (fun x => (scoOf st).names.lookup x) binds (fun _ => none)) := x.toInCall.ns
        rw [hb] at hn
        exact loc_of hn fun y u e => e
      · obtain ⟨⟨nm, cc⟩, hm, rfl⟩ := List.mem_map.mp hp
        refine ⟨?_, ?_⟩
        · have := x.above nm cc hm
          cases e : h.get? cc with
          | none => rfl
          | some o =>
            exact absurd (Nat.lt_trans (Heap.lt_size e) this) (Nat.lt_irrefl _)
        · exact x.cell nm cc (lookup_of_mem_nodup hcn hm)
    · rw [List.map_cons, List.nodup_cons, List.map_map]
      refine ⟨fun q => ?_, ?_⟩
      · obtain ⟨⟨nm, cc⟩, hm, e⟩ := List.mem_map.mp q
        have h1 := x.above nm cc hm
        have h2 : cc = h.objs.size := e
        have h3 : h.objs.size < cc := h1
        exact absurd (h2 ▸ h3) (Nat.lt_irrefl _)
      · have := x.apart
        exact List.pairwise_map.mpr this
  refine wpAny_mono (hq (A.deeper _) h.objs.size h₁ tk' R.deeper S₁) (fun fl s' z => ?_) fun _ _ z => z.elim
  cases fl <;> exact z
end
end
section -- F4
open PySem PySem.W PyProof.Rows PySem.Calls PySem.Spec
set_option maxRecDepth 100000
theorem f_Name_init (P : Params) : FnAt (KK P) 168 "__init__" "Name.__init__" (inCls (stAt 8) 0) (Value.none) 167 := ⟨⟨Value.str (Str.ofString "paperhold.objects") 359, by kernel_rfl⟩, by kernel_rfl⟩
theorem f_Stream_init (P : Params) : FnAt (KK P) 211 "__init__" "Stream.__init__" (inCls (stAt 10) 0) (Value.none) 210 := ⟨⟨Value.str (Str.ofString "paperhold.objects") 359, by kernel_rfl⟩, by kernel_rfl⟩
theorem f_Reference_init (P : Params) : FnAt (KK P) 232 "__init__" "Reference.__init__" (inCls (stAt 11) 0) (Value.none) 231 := ⟨⟨Value.str (Str.ofString "paperhold.objects") 359, by kernel_rfl⟩, by kernel_rfl⟩
theorem f_Reference_pair (P : Params) : FnAt (KK P) 239 "pair" "Reference.pair" (inCls (stAt 11) 1) (Value.none) 238 := ⟨⟨Value.str (Str.ofString "paperhold.objects") 359, by kernel_rfl⟩, by kernel_rfl⟩
theorem f_kind_of (P : Params) : FnAt (KK P) 253 "kind_of" "kind_of" (stAt 12) (Value.none) 252 := ⟨⟨Value.str (Str.ofString "paperhold.objects") 359, by kernel_rfl⟩, by kernel_rfl⟩
theorem f_told_plain (P : Params) : FnAt (KK P) 260 "told_plain" "told_plain" (stAt 13) (Value.none) 259 := ⟨⟨Value.str (Str.ofString "paperhold.objects") 359, by kernel_rfl⟩, by kernel_rfl⟩
theorem f_told (P : Params) : FnAt (KK P) 265 "told" "told" (stAt 14) (Value.none) 264 := ⟨⟨Value.str (Str.ofString "paperhold.objects") 359, by kernel_rfl⟩, by kernel_rfl⟩
theorem f_renumbered (P : Params) : FnAt (KK P) 270 "renumbered" "renumbered" (stAt 16) (Value.none) 269 := ⟨⟨Value.str (Str.ofString "paperhold.objects") 359, by kernel_rfl⟩, by kernel_rfl⟩
theorem f_Lookup_init (P : Params) : FnAt (KK P) 285 "__init__" "Lookup.__init__" (inCls (stAt 17) 0) (Value.ref 278) 284 := ⟨⟨Value.str (Str.ofString "paperhold.objects") 359, by kernel_rfl⟩, by kernel_rfl⟩
theorem f_Shelf_put (P : Params) : FnAt (KK P) 320 "put" "Shelf.put" (inCls (stAt 18) 0) (Value.none) 319 := ⟨⟨Value.str (Str.ofString "paperhold.objects") 359, by kernel_rfl⟩, by kernel_rfl⟩
theorem f_Shelf_numbers (P : Params) : FnAt (KK P) 341 "numbers" "Shelf.numbers" (inCls (stAt 18) 3) (Value.none) 340 := ⟨⟨Value.str (Str.ofString "paperhold.objects") 359, by kernel_rfl⟩, by kernel_rfl⟩
theorem f_Shelf_told (P : Params) : FnAt (KK P) 353 "told" "Shelf.told" (inCls (stAt 18) 5) (Value.none) 352 := ⟨⟨Value.str (Str.ofString "paperhold.objects") 359, by kernel_rfl⟩, by kernel_rfl⟩
theorem f_word_of (P : Params) : FnAt (KK P) 366 "word_of" "word_of" (stAt 21) (Value.none) 365 := ⟨⟨Value.str (Str.ofString "paperhold.gather") 635, by kernel_rfl⟩, by kernel_rfl⟩
theorem f_twins (P : Params) : FnAt (KK P) 373 "twins" "twins" (stAt 22) (Value.none) 372 := ⟨⟨Value.str (Str.ofString "paperhold.gather") 635, by kernel_rfl⟩, by kernel_rfl⟩
theorem f_joined_twins (P : Params) : FnAt (KK P) 380 "joined_twins" "joined_twins" (stAt 23) (Value.none) 379 := ⟨⟨Value.str (Str.ofString "paperhold.gather") 635, by kernel_rfl⟩, by kernel_rfl⟩
theorem f_law_pen (P : Params) : FnAt (KK P) 387 "_law_pen" "_law_pen" (stAt 25) (Value.none) 386 := ⟨⟨Value.str (Str.ofString "law_nn0124_01") 677, by kernel_rfl⟩, by kernel_rfl⟩
theorem f_law_draw (P : Params) : FnAt (KK P) 394 "_law_draw" "_law_draw" (stAt 26) (Value.none) 393 := ⟨⟨Value.str (Str.ofString "law_nn0124_01") 677, by kernel_rfl⟩, by kernel_rfl⟩
theorem f_law_value (P : Params) : FnAt (KK P) 399 "_law_value" "_law_value" (stAt 27) (Value.none) 398 := ⟨⟨Value.str (Str.ofString "law_nn0124_01") 677, by kernel_rfl⟩, by kernel_rfl⟩
theorem f_law_shelf (P : Params) : FnAt (KK P) 406 "_law_shelf" "_law_shelf" (stAt 28) (Value.none) 405 := ⟨⟨Value.str (Str.ofString "law_nn0124_01") 677, by kernel_rfl⟩, by kernel_rfl⟩
theorem f_law_unfolded (P : Params) : FnAt (KK P) 411 "_law_unfolded" "_law_unfolded" (stAt 29) (Value.none) 410 := ⟨⟨Value.str (Str.ofString "law_nn0124_01") 677, by kernel_rfl⟩, by kernel_rfl⟩
theorem f_law_is_page (P : Params) : FnAt (KK P) 418 "_law_is_page" "_law_is_page" (stAt 30) (Value.none) 417 := ⟨⟨Value.str (Str.ofString "law_nn0124_01") 677, by kernel_rfl⟩, by kernel_rfl⟩
-- the main module's names that the walk meets
inductive GV : Str → Value → Prop
  | g0 : GV (Str.ofString "kind_of") (Value.ref 253)
  | g1 : GV (Str.ofString "told_plain") (Value.ref 260)
  | g2 : GV (Str.ofString "told_objects") (Value.ref 265)
  | g3 : GV (Str.ofString "renumbered") (Value.ref 270)
  | g4 : GV (Str.ofString "Shelf") (Value.ref 356)
  | g5 : GV (Str.ofString "SINGLE") (Value.ref 359)
  | g6 : GV (Str.ofString "word_of") (Value.ref 366)
  | g7 : GV (Str.ofString "twins") (Value.ref 373)
  | g8 : GV (Str.ofString "joined_twins") (Value.ref 380)
  | g9 : GV (Str.ofString "Decimal") (Value.ref 143)
  | g10 : GV (Str.ofString "Name") (Value.ref 171)
  | g11 : GV (Str.ofString "String") (Value.ref 193)
  | g12 : GV (Str.ofString "Stream") (Value.ref 214)
  | g13 : GV (Str.ofString "Reference") (Value.ref 242)
  | g14 : GV (Str.ofString "_law_pen") (Value.ref 387)
  | g15 : GV (Str.ofString "_law_draw") (Value.ref 394)
  | g16 : GV (Str.ofString "_law_value") (Value.ref 399)
  | g17 : GV (Str.ofString "_law_shelf") (Value.ref 406)
  | g18 : GV (Str.ofString "_law_unfolded") (Value.ref 411)
  | g19 : GV (Str.ofString "_law_is_page") (Value.ref 418)
theorem gv (P : Params) {x : Str} {v : Value} (h : GV x v) : nsIn (KK P) mainGlobals x = some (some v) := by cases h <;> kernel_rfl
-- the builtins that the walk meets
inductive BV : Str → Value → Prop
  | b0 : BV (Str.ofString "isinstance") (.builtin "isinstance")
  | b1 : BV (Str.ofString "bool") (.type "bool")
  | b2 : BV (Str.ofString "int") (.type "int")
  | b3 : BV (Str.ofString "list") (.type "list")
  | b4 : BV (Str.ofString "dict") (.type "dict")
  | b5 : BV (Str.ofString "tuple") (.type "tuple")
  | b6 : BV (Str.ofString "sorted") (.builtin "sorted")
  | b7 : BV (Str.ofString "bytes") (.type "bytes")
  | b8 : BV (Str.ofString "repr") (.builtin "repr")
  | b9 : BV (Str.ofString "range") (.type "range")
  | b10 : BV (Str.ofString "abs") (.builtin "abs")
  | b11 : BV (Str.ofString "len") (.builtin "len")
  | b12 : BV (Str.ofString "set") (.type "set")
theorem bvn (P : Params) {x : Str} {v : Value} (h : BV x v) : nsIn (KK P) mainGlobals x = some none := by cases h <;> kernel_rfl
theorem bvv {x : Str} {v : Value} (h : BV x v) : bootBuiltins x = some v := by cases h <;> kernel_rfl
end
section -- R1
open PySem PySem.W PyProof.Rows PySem.Calls PySem.Spec
set_option maxRecDepth 100000
noncomputable def ListO (items : Array Value) : Obj → Prop := fun o => o.cls = .type "list" ∧ ∃ n, o.data = .seq items n
noncomputable def PL (items : Array Value) : Obj → Prop := fun o => ∃ n, o = { cls := .type "list", data := .seq items n }
theorem PL.lo {items : Array Value} {o : Obj} (x : PL items o) : ListO items o := let ⟨n, e⟩ := x; by subst e; exact ⟨rfl, n, rfl⟩
theorem isList_of {h : Heap} {a : Addr} {items : Array Value} {o : Obj} (e : h.get? a = some o) (x : ListO items o) : h.IsList a items := ⟨o, e, x.1, x.2⟩
theorem of_isList {h : Heap} {a : Addr} {items : Array Value} (x : h.IsList a items) : ∃ o, h.get? a = some o ∧ ListO items o := let ⟨o, e, a1, a2⟩ := x; ⟨o, e, a1, a2⟩
section
variable {h₀ h h' : Heap} {I : Fz} {C : List Cell} {a : Addr} {items : Array Value} {c : Cell} {P P' : Obj → Prop}
theorem St.list1 (S : St h₀ I ((a, ListO items) :: C) h) : h.IsList a items := let ⟨_, e, x⟩ := S.head; isList_of e x
theorem St.list2 (S : St h₀ I (c :: (a, ListO items) :: C) h) : h.IsList a items := S.tail.list1
theorem St.same2 (S : St h₀ I (c :: (a, P) :: C) h) (k : Heap.ExtBut a h h') (x : ∃ o, h'.get? a = some o ∧ P' o) : St h₀ I (c :: (a, P') :: C) h' := (S.swap.same k x).swap
end
section
variable {prog : Program} {w : World} {A : Around} {E : Value → Shared → Prop} {b : Bs} {h : Heap} {tk : Nat} {Q : Value → Shared → Prop} {x y : Int} {t u : Tok} {env : Env} {kd : Nat} {pos : Pos}
theorem cInt {n : Int} (q : ∀ t tk', Q (.int n t) (sh b h tk')) : wpAny (model prog w) A (eval (.Constant (.int n) kd pos) env) Q E (sh b h tk) := wpAny_Constant_int (q _ _)
theorem cStr {n : Str} (q : ∀ t tk', Q (.str n t) (sh b h tk')) : wpAny (model prog w) A (eval (.Constant (.str n) kd pos) env) Q E (sh b h tk) := wpAny_Constant_str (q _ _)
theorem addI (q : ∀ t tk', Q (.int (x + y) t) (sh b h tk')) : wpAny (model prog w) A (binaryOp .Add (.int x t) (.int y u)) Q E (sh b h tk) := add_int (q _ _)
theorem subI (q : ∀ t tk', Q (.int (x - y) t) (sh b h tk')) : wpAny (model prog w) A (binaryOp .Sub (.int x t) (.int y u)) Q E (sh b h tk) := sub_int (q _ _)
theorem mulI (hf : IntMulOk x y) (q : ∀ t tk', Q (.int (x * y) t) (sh b h tk')) : wpAny (model prog w) A (binaryOp .Mult (.int x t) (.int y u)) Q E (sh b h tk) := mul_int (q _ _) hf
theorem modI (h0 : 0 < y) (q : ∀ t tk', Q (.int (x.fmod y) t) (sh b h tk')) : wpAny (model prog w) A (binaryOp .Mod (.int x t) (.int y u)) Q E (sh b h tk) := mod_int' (by omega) (q _ _)
theorem divI (h0 : 0 < y) (h1 : y < 1000) (q : ∀ t tk', Q (.int (x.fdiv y) t) (sh b h tk')) : wpAny (model prog w) A (binaryOp .FloorDiv (.int x t) (.int y u)) Q E (sh b h tk) :=
  floordiv_int (by omega) (q _ _) (.inl (PyProof.noPylong_small (by omega)))
theorem eqI {x y : Int} (q : Q (.bool (x == y)) (sh b h tk)) : wpAny (model prog w) A (compareOp .Eq (.int x t) (.int y u)) Q E (sh b h tk) := eq_int q
end
end
section -- M0
open PySem PySem.W PyProof.Rows PySem.Calls PySem.Spec
set_option maxRecDepth 100000
set_option linter.unusedVariables false
section
variable {w : World} {A : Around} {E : Value → Shared → Prop} {b : Bs} {h : Heap} {tk : Nat} {Q : Value → Shared → Prop}
noncomputable def SeqPost (T : String) (Q : Value → Shared → Prop) (vs : List Value) (s₁ : Shared) : Prop := vs.length ≤ sizeLine ∧ Q (.ref s₁.heap.objs.size) { s₁ with heap := s₁.heap.push { cls := .type T, data := .seq vs.toArray } }
theorem evTuple {M : Model} {elts : List Expr} {kd : Nat} {pos : Pos} {env : Env} {s : Shared} (h : wpAny M A (spliced (backTo pos (starEach elts env))) (fun vs s₁ => SeqPost "tuple" Q vs s₁) E s) : wpAny M A (eval (.Tuple elts kd pos) env) Q E s := wpAny_Tuple h
theorem evList {M : Model} {elts : List Expr} {pos : Pos} {env : Env} {s : Shared} (h : wpAny M A (spliced (backTo pos (starEach elts env))) (fun vs s₁ => SeqPost "list" Q vs s₁) E s) : wpAny M A (eval (.List elts pos) env) Q E s := wpAny_List h
end
section
variable {prog : Program} {w : World} {A : Around} {E : Value → Shared → Prop} {b : Bs} {h : Heap} {tk : Nat} {Q : Value → Shared → Prop} {x y : Str} {t u : Tok}
theorem ifT {a b : Prop} {i : Decidable (true = true)} (h : a) : @ite Prop (true = true) i a b := by rw [if_pos rfl]; exact h
theorem ifF {a b : Prop} {i : Decidable (false = true)} (h : b) : @ite Prop (false = true) i a b := by rw [if_neg Bool.false_ne_true]; exact h
theorem eqS (q : Q (.bool (x == y)) (sh b h tk)) : wpAny (model prog w) A (compareOp .Eq (.str x t) (.str y u)) Q E (sh b h tk) := PyProof.Rows.eq_str q
theorem eqSt (e : x = y) (q : Q (.bool true) (sh b h tk)) : wpAny (model prog w) A (compareOp .Eq (.str x t) (.str y u)) Q E (sh b h tk) := eqS (by rw [e, beq_self_eq_true]; exact q)
theorem eqSf (e : x ≠ y) (q : Q (.bool false) (sh b h tk)) : wpAny (model prog w) A (compareOp .Eq (.str x t) (.str y u)) Q E (sh b h tk) := eqS (by rw [beq_eq_false_iff_ne.mpr e]; exact q)
end
section
variable {prog : Program} {w : World} {A : Around} {E : Value → Shared → Prop} {b : Bs} {h : Heap} {tk : Nat} {Q : Value → Shared → Prop} {x y : Str} {t u : Tok}
theorem neSt (e : x = y) (q : Q (.bool false) (sh b h tk)) : wpAny (model prog w) A (compareOp .NotEq (.str x t) (.str y u)) Q E (sh b h tk) := PyProof.Rows.ne_str (by rw [e, bne_self_eq_false]; exact q)
theorem neSf (e : x ≠ y) (q : Q (.bool true) (sh b h tk)) : wpAny (model prog w) A (compareOp .NotEq (.str x t) (.str y u)) Q E (sh b h tk) := PyProof.Rows.ne_str (by rw [bne_iff_ne.mpr e]; exact q)
end
end
section -- R2
open PySem PySem.W PyProof.Rows PySem.Calls PySem.Spec
set_option maxRecDepth 100000
noncomputable def AttO (l : List (Str × Value)) : Obj → Prop := fun o => ∃ es ep, o.data = .dict es ep ∧ StrKeys es ∧ (∀ n, nsFind es n = l.lookup n) ∧ es.size ≤ l.length
noncomputable def InstH (h : Heap) (x Cl : Addr) (l : List (Str × Value)) : Prop := ∃ dx o, h.get? x = some (instObj Cl dx) ∧ h.get? dx = some o ∧ AttO l o
noncomputable def InstF (I : Fz) (x Cl : Addr) (l : List (Str × Value)) : Prop := ∃ dx o, I x (instObj Cl dx) ∧ I dx o ∧ AttO l o
theorem InstF.le {I J : Fz} {x Cl : Addr} {l : List (Str × Value)} (i : InstF I x Cl l) (k : Le I J) : InstF J x Cl l := let ⟨d, o, a, b, c⟩ := i; ⟨d, o, k _ _ a, k _ _ b, c⟩
theorem InstF.h {h₀ h : Heap} {I : Fz} {C : List Cell} {x Cl : Addr} {l : List (Str × Value)} (i : InstF I x Cl l) (S : St h₀ I C h) : InstH h x Cl l := let ⟨d, o, a, b, c⟩ := i; ⟨d, o, S.fz _ _ a, S.fz _ _ b, c⟩
theorem InstH.inst {h : Heap} {x Cl : Addr} {l : List (Str × Value)} (i : InstH h x Cl l) : ∃ dx o, InstAt h x (instObj Cl dx) Cl (some o) ∧ AttO l o ∧ h.get? dx = some o := let ⟨d, o, a, b, c⟩ := i; ⟨d, o, ⟨a, rfl, rfl, b⟩, c, b⟩
theorem look_att {l : List (Str × Value)} {o : Obj} {n : Str} (x : AttO l o) : lookIn n o = some (l.lookup n) := by
  obtain ⟨es, ep, hd, hk, hm, _⟩ := x
  have hm := hm n
  unfold lookIn; rw [hd]; dsimp only
  unfold nsFind findBy at hm
  have hany : es.toList.any (·.refKey) = false := by
    rw [Array.any_toList, Array.any_eq_false']; intro e he; obtain ⟨n, t, h⟩ := hk e he; simp [DictEntry.refKey, h]
  rw [← Array.find?_toList] at hm
  cases q : es.toList.find? (fun e => e.key.isStr n) with
  | some e => rw [q] at hm; simpa using hm
  | none => rw [q] at hm; simp only [hany]; simpa using hm
theorem att_put {l : List (Str × Value)} {o : Obj} {n : Str} {v : Value} {hh : Int} {t : Tok} (x : AttO l o) : AttO ((n, v) :: l) (o.putName n hh (.str n t) v) := by
  obtain ⟨es, ep, hd, hk, hm, hz⟩ := x
  obtain ⟨c, d, dt, sl⟩ := o
  subst hd
  have hl : ∀ y : Str, (((n, v) :: l).lookup y) = if y = n then some v else l.lookup y := fun y => by
    rw [List.lookup_cons]
    by_cases e : y = n
    · subst e; simp
    · have : (y == n) = false := by simpa using e
      simp [this, e]
  cases hi : es.findIdx? (·.key.isStr n) with
  | some i =>
    refine ⟨_, ep, by simp only [Obj.putName_eq, Obj.putNameByArray, hi]; rfl, hk.modify _ _, fun y => ?_, by rw [Array.size_modify]; exact Nat.le_succ_of_le hz⟩
    rw [hl, ← hm]; exact findBy_modify (fun n v => v.isStr n) Value.isStr_inj es n y v i hi
  | none =>
    refine ⟨_, ep + 1, by simp only [Obj.putName_eq, Obj.putNameByArray, hi]; rfl, hk.push _ _ _ _, fun y => ?_, by rw [Array.size_push]; exact Nat.succ_le_succ hz⟩
    rw [hl, ← hm]
    exact findBy_push (fun n v => v.isStr n) es n y _ _ v (fun y => by
        show (n == y) = decide (y = n)
        by_cases h : y = n
        · subst h; simp
        · have : ¬ n = y := fun e => h e.symm
          simp [h, this]) hi
section
variable {prog : Program} {w : World} {A : Around} {E : Value → Shared → Prop} {b : Bs} {h : Heap} {tk : Nat} {K : Frag} {h₀ : Heap} {I : Fz} {C : List Cell} {x Cl dx f : Addr} {l : List (Str × Value)} {n : Str} {v : Value} {c : Cell}
theorem getA {Q : Value → Shared → Prop} {attr : Option Value} (W : Wd K h₀) (S : St h₀ I C h) (i : InstH h x Cl l) (hv : l.lookup n = some v) (hga : findIn K (.ref Cl) "__getattribute__" = some (some (.builtin "object.__getattribute__"))) (hd : hasDictIn K Cl = true)
    (ha : findIn K (.ref Cl) n = some attr) (hn : noGet K attr = true) (hh : handedIn v = true) (q : ∀ tk', Q v (sh b h tk')) : wpAny (model prog w) A (getAttr (.ref x) n true) Q E (sh b h tk) := by
  obtain ⟨dx, o, i, ho, _⟩ := i.inst
  exact get_value (S.Kin W) i hga (findObj_own hd ha hn (by rw [look_att ho, hv])) hh (q _)
theorem getM {Q : Value × List Value → Shared → Prop} {pl : Sem Bool} (W : Wd K h₀) (S : St h₀ I C h) (i : InstH h x Cl l) (hga : findIn K (.ref Cl) "__getattribute__" = some (some (.builtin "object.__getattribute__"))) (hk : findIn K (.ref Cl) "__getattr__" = some none)
    (hf : findIn K (.ref Cl) n = some (some (.ref f))) (ht : typeIn K (.ref f) = some (.type "function")) (hv : l.lookup n = none) (q : Q (.ref f, [.ref x]) (sh b h tk)) : wpAny (model prog w) A (getMethod (.ref x) n pl) Q E (sh b h tk) := by
  obtain ⟨dx, o, i, ho, _⟩ := i.inst
  exact method_fn (S.Kin W) i hga hk hf ht (by unfold shadowIn; dsimp only; rw [look_att ho, hv]; rfl) q
theorem setA {Q : Unit → Shared → Prop} (W : Wd K h₀) (S : St h₀ I (c :: (dx, AttO l) :: C) h) (hx : h.get? x = some (instObj Cl dx)) (hz : l.length ≤ 100)
    (hp : plainOver K Cl = true) (ht : takerIn K Cl n = some none) (hh : (clsIn K Cl).any (·.hasDict) = true) (hs : findIn K (.ref Cl) "__setattr__" = some (some (.builtin "object.__setattr__")))
    (q : ∀ h' tk', St h₀ I (c :: (dx, AttO ((n, v) :: l)) :: C) h' → Q () (sh b h' tk')) : wpAny (model prog w) A (setAttr (.ref x) n v) Q E (sh b h tk) := by
  obtain ⟨o, D, ha⟩ := S.tail.head
  have X := S.Kin W
  have i : InstAt h x (instObj Cl dx) Cl (some o) := ⟨hx, rfl, rfl, D⟩
  refine set_plain X i hs (osa_open (r := none) X i hp ht fun bb => ?_)
  obtain ⟨cd, hc, hd'⟩ := any_some hh
  refine wpAny_bind (wpAny_pure (wpAny_bind (wpAny_bind (wpAny_loadPart hx (wpAny_bind ((looks_clsIn X hc).here ?_))))))
  rw [hd']
  refine wpAny_pure (a := some dx) (wpAny_bind (wpAny_pure (wpAny_bind ?_)))
  unfold nsSet
  refine wpAny_bind (wpAny_bind (wpAny_askSetting (wpAny_pure (wpAny_bind (wpAny_mkText (wpAny_bind (wpAny_loadPart D ?_)))))))
  have ha' := ha
  obtain ⟨es, ep, hd, hk, hm, hz'⟩ := ha
  rw [hd]
  dsimp only
  have hany : es.any (·.refKey) = false := by
    rw [Array.any_eq_false']; intro e he; obtain ⟨n, t, h⟩ := hk e he; simp [DictEntry.refKey, h]
  rw [aRefKeyMayBeTheName_at, hany, Bool.and_false]
  refine wpAny_updatePart D ?_
  have hput := att_put (n := n) (v := v) (hh := PyData.keyHash w.params n) (t := tk + 1) ha'
  have D' : (h.update dx (Obj.putName n (PyData.keyHash w.params n) (.str n (tk + 1)) v)).get? dx = some (o.putName n (PyData.keyHash w.params n) (.str n (tk + 1)) v) := by
    refine Heap.get?_update_self _ D ?_
    obtain ⟨es', ep', e', _⟩ := hput
    revert e'
    generalize Obj.putName n (PyData.keyHash w.params n) (.str n (tk + 1)) v o = oo
    intro e'
    obtain ⟨a, b, c', d⟩ := oo
    cases e'; rfl
  have S' := S.same2 (P' := AttO ((n, v) :: l)) (Heap.SameBut.update h dx _).extBut ⟨_, D', hput⟩
  refine wpAny_bind (wpAny_lookBehind D' ?_ ?_)
  · obtain ⟨es', ep', e', _, _, z⟩ := hput
    rw [e']
    exact pastItsLine_dict (by rw [sizeLine_eq]; have : ((n, v) :: l).length = l.length + 1 := rfl; omega)
  · exact wpAny_pure (q _ _ S')
end
end
section -- R3
open PySem PySem.W PyProof.Rows PySem.Calls PySem.Spec
set_option maxRecDepth 100000
section
variable {prog : Program} {w : World} {A : Around} {E : Value → Shared → Prop} {b : Bs} {h : Heap} {tk : Nat} {K : Frag} {h₀ : Heap} {I : Fz} {C : List Cell} {Q : Value → Shared → Prop} {fI Cl c : Addr} {n q : String} {st : Stmt} {dV : Value} {k : Nat}
  {args : List Value} {kw : List (Str × Value)} {binds : Addr → List (Str × Value)}
/-- a call of a class whose __init__ is a plain def -/
theorem newI (W : Wd K h₀) (R : Rm A (k + 2)) (S : St h₀ I C h) (hm : makesIn K Cl = true) (hi : findIn K (.ref Cl) "__init__" = some (some (.ref fI))) (hF : FnAt K fI n q st dV c)
    (hbind : ∀ pm h' x tk', (∀ a o, h.get? a = some o → h'.get? a = some o) → BindsTo (sh b h' tk') (fdR n q st dV pm c) ⟨.ref x :: args, kw⟩ (binds x))
    (hloc : ∀ x, ((binds x).all fun x => decide ((scoOf st).names.lookup x.1 = some .local)) = true) (hcell : ((scoOf st).names.all fun x => x.2 != .cell) = true)
    (hco : (scoOf st).isCoroutine = false) (hgen : (scoOf st).isGenerator = false) (hk : (scoOf st).kind = .function)
    (hq : ∀ A' x dx L h₁ tk', Rm A' k → St h₀ I ((L, Loc (binds x).reverse) :: (dx, AttO []) :: (x, fun o => o = instObj Cl dx) :: C) h₁ →
      wpAny (model prog w) A' (execs (bodOf st) (envP q st L fI c [])) (fun fl s' => retOf fl = .none ∧ Q (.ref x) s') (fun _ _ => False) (sh b h₁ tk')) :
    wpAny (model prog w) A (call (.ref Cl) args kw) Q E (sh b h tk) := by
  obtain ⟨⟨pm, ho⟩, hcd⟩ := hF
  have X := S.Kin W
  have ht : typeIn K (.ref fI) = some (.type "function") := by simp [typeIn, ho]
  refine wpAny_call (make_core (makes_of X hm) (looks_findIn X hi) (fun self => bind_fn X self ht) (.inl rfl) ?_)
  have S1 := S.push (o := emptyDict) (P := AttO []) ⟨#[], 0, rfl, by intro e he; simp at he, fun n => rfl, Nat.le_refl _⟩ rfl
  have S2 := S1.push (o := instObj Cl h.objs.size) (P := fun o => o = instObj Cl h.objs.size) rfl rfl
  have hz : (h.push emptyDict).objs.size = h.objs.size + 1 := Array.size_push ..
  rw [hz] at S2
  have R' : Rm (A.under (.builtin "type.__call__" ⟨.ref Cl :: args, kw⟩)) (k + 1) := by
    have e1 : (Code.builtin "type.__call__" ⟨.ref Cl :: args, kw⟩).weight = 1 := by kernel_rfl
    have e2 : (Code.builtin "type.__call__" ⟨.ref Cl :: args, kw⟩).cUnits = 1 := by kernel_rfl
    have e3 : (Code.builtin "type.__call__" ⟨.ref Cl :: args, kw⟩).guards = [] := by kernel_rfl
    refine ⟨R.hd, ?_, ?_, ?_⟩
    · unfold Around.under; dsimp only; rw [e3, pushGuards_eq, R.gd]; rfl
    · unfold Around.under; dsimp only; rw [e1]; have := R.dp; omega
    · unfold Around.under; dsimp only; rw [e2]; have := R.un; omega
  refine codeAny_call_def (s := sh b ((h.push emptyDict).push (instObj Cl h.objs.size)) tk) (fd := fdR n q st dV pm c) (body := bodOf st) (binds := binds (h.objs.size + 1)) R'.room (S2.Kin W _ _ ho) rfl (W.nl.keeps S2.keep) (codeRec_of (S2.Kin W) hcd) rfl
    (hbind pm _ _ _ (fun a o e => Heap.get?_push_of_some _ (Heap.get?_push_of_some _ e)))
    (fun x hx => by simpa using List.all_eq_true.mp hcell x hx) (locs (hloc _)) (fun h₁ hns hk₁ => ?_) hco hgen hk
  have S3 := S2.fresh (size_none _) hk₁ (loc_of hns fun _ _ e => e)
  refine wpAny_mono (hq _ _ _ _ h₁ _ R'.deeper (S3.perm (.cons _ (.swap _ _ _)))) (fun fl s' z => ?_) fun _ _ z => z.elim
  cases fl <;> exact z
end
end
section -- F5
open PySem PySem.W PyProof.Rows PySem.Calls PySem.Spec
set_option maxRecDepth 100000
set_option linter.unusedVariables false
structure Iter (w : World) (I : Fz) (it : Addr) (n : Nat) (P : Nat → Value → Prop) (N : Nat → Obj → Prop) : Prop where
  walks : ∀ A : Around, A.handled = none → ∃ fp StI, Walks P0 w A it fp [it] n P StI ∧ (∀ i h, (∀ a o, I a o → h.get? a = some o) → (∃ o, h.get? it = some o ∧ N i o) → StI i h) ∧ (∀ i h, StI i h → ∃ o, h.get? it = some o ∧ N i o)
section
variable {w : World} {A : Around} {E : Value → Shared → Prop} {b : Bs} {h : Heap} {tk : Nat} {h₀ : Heap} {I I₁ J : Fz} {C : List Cell} {it ax : Addr} {n : Nat} {P : Nat → Value → Prop} {N : Nat → Obj → Prop} {o : Obj} {items : Array Value}
theorem Iter.le (x : Iter w I it n P N) (k : Le I J) : Iter w J it n P N := ⟨fun A hA => let ⟨fp, StI, W, a, b⟩ := x.walks A hA; ⟨fp, StI, W, fun i h f => a i h (fun a o e => f a o (k a o e)), b⟩⟩
theorem Iter.next {Q : Option Value → Shared → Prop} {i : Nat} {c : Cell} (x : Iter w I₁ it n P N) (hA : A.handled = none) (k : Le I₁ I) (hi : i < n) (S : St h₀ I (c :: (it, N i) :: C) h)
    (q : ∀ v h' tk', P i v → St h₀ I (c :: (it, N (i + 1)) :: C) h' → Q (some v) (sh b h' tk')) : wpAny (model P0 w) A (pyNext (.ref it)) Q E (sh b h tk) := by
  obtain ⟨fp, StI, W, a1, a2⟩ := x.walks A hA
  refine W.item i _ _ _ hi (a1 i _ (fun a o e => S.fz _ _ (k _ _ e)) S.tail.head) fun v h' tk' hP hS hk => q v h' tk' hP (S.same2 (fun b o hb e => hk b o (by simpa using hb) e) (a2 _ _ hS))
theorem Iter.over {Q : Option Value → Shared → Prop} {c : Cell} (x : Iter w I₁ it n P N) (hA : A.handled = none) (k : Le I₁ I) (S : St h₀ I (c :: (it, N n) :: C) h)
    (q : ∀ h' tk', St h₀ I (c :: C) h' → Q none (sh b h' tk')) : wpAny (model P0 w) A (pyNext (.ref it)) Q E (sh b h tk) := by
  obtain ⟨fp, StI, W, a1, a2⟩ := x.walks A hA
  exact W.done _ _ _ (a1 n _ (fun a o e => S.fz _ _ (k _ _ e)) S.tail.head) fun h' tk' hk => q h' tk' (S.swap.drop fun b o hb e => hk b o (by simpa using hb) e)
theorem Iter.self {Q : Value → Shared → Prop} {i : Nat} (x : Iter w I₁ it n P N) (hA : A.handled = none) (k : Le I₁ I) (S : St h₀ I C h) (hi : ∃ o, h.get? it = some o ∧ N i o) (q : Q (.ref it) (sh b h tk)) : wpAny (model P0 w) A (pyIter (.ref it)) Q E (sh b h tk) := by
  obtain ⟨fp, StI, W, a1, a2⟩ := x.walks A hA
  exact W.self i _ _ _ (a1 i _ (fun a o e => S.fz _ _ (k _ _ e)) hi) q
theorem iterList (hI : I ax o) (ho : ListO items o) (hne : ax ≠ it) : Iter w I it items.size (fun i v => items[i]? = some v) (fun i o => o.cls = .type "list_iterator" ∧ o.data = .fields #[.ref ax, .int i 0]) :=
  ⟨fun A hA => ⟨_, _, Walks.list hA it ax hne items, fun i h f q => ⟨q, o, f _ _ hI, ho⟩, fun i h q => q.1⟩⟩
theorem iterRange (a : Int) : Iter w I it n (fun i v => ∃ t, v = .int (a + i) t) (fun i o => o = { cls := .type "range_iterator", dict := none, data := .fields #[rawInt (a + i), rawInt ((n : Int) - i), rawInt 1], slots := #[] }) :=
  ⟨fun A hA => ⟨_, _, by have := Walks.range (prog := P0) (w := w) hA it a 1 n; simp only [Int.mul_one] at this; exact this, fun i h _ q => by obtain ⟨o, e, rfl⟩ := q; exact e, fun i h q => ⟨_, q, rfl⟩⟩⟩
theorem ne_size (S : St h₀ I C h) (hI : I ax o) : ax ≠ h.objs.size := fun e => by have := S.fz _ _ hI; rw [e, size_none] at this; cases this
theorem itList {Q : Value → Shared → Prop} (S : St h₀ I C h) (hI : I ax o) (ho : ListO items o)
    (q : ∀ it h' tk' N, Iter w I it items.size (fun i v => items[i]? = some v) N → St h₀ I ((it, N 0) :: C) h' → Q (.ref it) (sh b h' tk')) : wpAny (model P0 w) A (pyIter (.ref ax)) Q E (sh b h tk) :=
  wpAny_pyIter_list (isList_of (S.fz _ _ hI) ho) (q _ _ _ _ (iterList hI ho (ne_size S hI)) (S.push ⟨rfl, rfl⟩ rfl))
/-- a list that is a cell, walked once: it is frozen here -/
theorem itListC {Q : Value → Shared → Prop} (S : St h₀ I ((ax, ListO items) :: C) h)
    (q : ∀ I' it h' tk' N, Le I I' → Iter w I' it items.size (fun i v => items[i]? = some v) N → St h₀ I' ((it, N 0) :: C) h' → Q (.ref it) (sh b h' tk')) : wpAny (model P0 w) A (pyIter (.ref ax)) Q E (sh b h tk) := by
  obtain ⟨o, ho, S'⟩ := S.freeze
  exact itList S' Add.new ho fun it h' tk' N a c => q _ it h' tk' N Add.le a c
theorem itRange {Q : Value → Shared → Prop} {r : Addr} {a : Int} {t u v : Tok} (S : St h₀ I C h) (hr : IsRange h r a (a + n) 1 t u v) (hs : Builtin.Range.small a (a + n) 1 = true)
    (q : ∀ it h' tk' N, Iter w I it n (fun i v => ∃ t, v = .int (a + i) t) N → St h₀ I ((it, N 0) :: C) h' → Q (.ref it) (sh b h' tk')) : wpAny (model P0 w) A (pyIter (.ref r)) Q E (sh b h tk) := by
  have hz : Builtin.Range.rangeSize a (a + n) 1 = n := by
    unfold Builtin.Range.rangeSize; simp; omega
  refine wpAny_pyIter_range hr hs (q _ _ _ _ (iterRange a) (S.push ?_ rfl))
  simp [hz]
theorem forF {Q : Flow → Shared → Prop} {target : Expr} {body : List Stmt} {env : Env} {l : List (Str × Value)} (HI : Iter w I₁ it n P N) (hA : A.handled = none) (Inv : Nat → Fz → List (Str × Value) → List Cell → Prop)
    (S : St h₀ I ((env.locals, Loc l) :: (it, N 0) :: C) h) (hle : Le I₁ I) (h0 : Inv 0 I l C)
    (turn : ∀ i I' l' C' h tk v, i < n → Inv i I' l' C' → Le I I' → P i v → St h₀ I' ((env.locals, Loc l') :: (it, N (i + 1)) :: C') h →
      ∀ Nx : Shared → Prop, (∀ {s}, (∃ I'' l'' C'' h'' tk'', s = sh b h'' tk'' ∧ Le I' I'' ∧ Inv (i + 1) I'' l'' C'' ∧ St h₀ I'' ((env.locals, Loc l'') :: (it, N (i + 1)) :: C'') h'') → Nx s) →
      wpAny (model P0 w) A (assign target env v) (fun _ s₂ => wpAny (model P0 w) A (execs body env) (fun f s₃ => match f with
        | .next | .cont => Nx s₃
        | .brk => False
        | .ret v => Q (.ret v) s₃) (fun _ _ => False) s₂) (fun _ _ => False) (sh b h tk))
    (done : ∀ I' l' C' h tk, Inv n I' l' C' → Le I I' → St h₀ I' ((env.locals, Loc l') :: C') h → Q .next (sh b h tk)) (ht : ∀ v, letOwnedTupleGo target (.ref it) v = pure () := by intro _; rfl) :
    codeAny (model P0 w) A (.forLoop target (.ref it) body [] env) (fun r s' => match r with | .ok f => Q f s' | .error e => cameBackBy (model P0 w) A env E e s') (sh b h tk) := by
  refine codeAny_forLoop (fun m s => ∃ i I' l' C' h tk, m + i = n ∧ s = sh b h tk ∧ Le I I' ∧ Inv i I' l' C' ∧ St h₀ I' ((env.locals, Loc l') :: (it, N i) :: C') h) ?_ n ⟨0, I, l, C, h, tk, rfl, rfl, Le.rfl, h0, S⟩ ht
  rintro m s ⟨i, I', l', C', h, tk, hm, rfl, k, hv, S⟩
  by_cases hi : i < n
  · refine HI.next hA (hle.trans k) hi S fun v h' tk' hP S' => ?_
    refine wpAny_mono (turn i I' l' C' h' tk' v hi hv k hP S' _ id) (fun _ s₂ x => wpAny_mono x (fun f s₃ y => ?_) fun _ _ z => z.elim) fun _ _ z => z.elim
    cases f with
    | next => obtain ⟨I'', l'', C'', h'', tk'', e, k', v', S''⟩ := y; exact ⟨m - 1, by omega, i + 1, I'', l'', C'', h'', tk'', by omega, e, k.trans k', v', S''⟩
    | cont => obtain ⟨I'', l'', C'', h'', tk'', e, k', v', S''⟩ := y; exact ⟨m - 1, by omega, i + 1, I'', l'', C'', h'', tk'', by omega, e, k.trans k', v', S''⟩
    | brk => exact y.elim
    | ret v => exact y
  · obtain rfl : i = n := by omega
    refine HI.over hA (hle.trans k) S fun h' tk' S' => ?_
    exact wpAny_execs_nil (done I' l' C' h' tk' hv k S')
theorem of_plain {h : Heap} {a : Addr} {items : Array Value} (x : h.PlainList a items) : ∃ o, h.get? a = some o ∧ PL items o := let ⟨n, e⟩ := x; ⟨_, e, n, rfl⟩
theorem St.plain2 {c : Cell} (S : St h₀ I (c :: (ax, PL items) :: C) h) : h.PlainList ax items := let ⟨_, e, n, f⟩ := S.tail.head; ⟨n, by rw [e, f]⟩
theorem loc1 {x : Str} {v : Value} {l : List (Str × Value)} (o : Obj) (ho : Loc ((x, v) :: l) o) : Loc [(x, v)] o := by
  obtain ⟨m, a, k⟩ := ho
  refine ⟨m, a, fun y u e => k y u ?_⟩
  rw [List.lookup_cons] at e ⊢
  split at e
  · exact e
  · cases e
theorem compG {Q : Value → Shared → Prop} {use : Option (Value → Sem Unit)} {e : Expr} {cpos : Pos} {elt iter : Expr} {ifs : List Expr} {x : Str} {px pos : Pos} {scope : Scope} {env : Env} {cl : List (Str × Addr)} (hA : A.handled = none) (he : e = .ListComp elt [⟨.Name x px, iter, ifs, 0⟩] scope pos) (hclos : closureFor scope env = pure cl)
    (hcell : (scope.names.all fun x => x.2 != .cell) = true) (hkind : scope.kind = .function) (hnames : (scope.names.all fun y => y.2 != .local || scope.names.lookup y.1 == some .local) = true) (hx : scope.names.lookup x = some .local)
    (hiter : ∀ HP : Value → Shared → Prop, (∀ {iv s₂}, (∃ it I I₁ n P N h tk C b, ∃ Inv : Nat → Fz → List Value → List Cell → Prop, iv = .ref it ∧ s₂ = sh b h tk ∧ Iter w I₁ it n P N ∧ n ≤ 100000 ∧ Le I₁ I ∧ St h₀ I ((it, N 0) :: C) h ∧ Inv 0 I [] C ∧
      (∀ i I' ys C' Lc acc h tk v, i < n → Inv i I' ys C' → Le I I' → P i v → St h₀ I' ((Lc, Loc [(x, v)]) :: (acc, PL ys.toArray) :: (it, N (i + 1)) :: C') h →
        ∀ Nx : List Value → Shared → Prop, (∀ {zs s}, (∃ I'' C'' h'' tk'', s = sh b h'' tk'' ∧ Le I' I'' ∧ Inv (i + 1) I'' zs C'' ∧ St h₀ I'' ((Lc, Loc [(x, v)]) :: (acc, PL ys.toArray) :: (it, N (i + 1)) :: C'') h'') → Nx zs s) →
        wpAny (model P0 w) A (forIn ifs true fun c r => if r = true then do let ok ← isTrue c (compEnvC scope cl Lc env) (eval c (compEnvC scope cl Lc env)); pure (ForInStep.yield ok) else pure (ForInStep.yield r))
          (fun ok s₃ => if ok = true then wpAny (model P0 w) A (eval elt (compEnvC scope cl Lc env)) (fun y s₄ => Nx (ys ++ [y]) s₄) (fun _ _ => False) s₃
            else Nx ys s₃) (fun _ _ => False) (sh b h tk)) ∧
      (∀ I' ys C' Lc lv acc h tk r, Inv n I' ys C' → Le I I' → St h₀ I' ((Lc, Loc lv) :: (acc, PL ys.toArray) :: C') h → compPost (model P0 w) A E use Q (.ref acc) Lc (.ok r) (sh b h tk))) → HP iv s₂) → wpAny (model P0 w) A (eval iter env) (fun xv s₁ => wpAny (model P0 w) A (pyIter xv) HP E s₁) E s)
    (hs : ∀ x, foldedSetIterable iter env x = pure x := by intro _; rfl) :
    wpAny (model P0 w) A (comprehension e scope env cpos (newList []) false (eval iter env) use) Q E s := by
  subst he
  refine wpAny_comprehension_free (use := use) rfl hs hclos hkind (fun y hy e => by have := List.all_eq_true.mp hnames y hy; simpa [e] using this)
    (wpAny_mono (hiter _ id) (fun xv s₁ h₁ => wpAny_mono h₁ (fun iv s₂ h₂ => ?_) fun _ _ e => e) fun _ _ e => e)
  obtain ⟨it, I, I₁, n, P, N, h, tk, C, b, Inv, rfl, rfl, HI, hn, hle, S, h0, turn, done⟩ := h₂
  refine wpAny_newObj_type (wpAny_newFunctionEnv (fun x hx => by simpa using List.all_eq_true.mp hcell x hx) (by intro y hy; simp at hy) (fun h₁ hns₁ hsb₁ => ?_) hkind)
  generalize hlo : ({ cls := .type "list", dict := none, data := .seq ([] : List Value).toArray } : Obj) = lo at hns₁ hsb₁ ⊢
  have hns₂ : h₁.Ns (h.push lo).objs.size (fun x => ([] : List (Str × Value)).lookup x) := hns₁
  have hsb₂ : Heap.SameBut (h.push lo).objs.size ((h.push lo).push _) h₁ := hsb₁
  clear hns₁
  have S1 : St h₀ I ((h.objs.size, PL #[]) :: (it, N 0) :: C) (h.push lo) := S.push (by subst hlo; exact ⟨0, rfl⟩) (by subst hlo; rfl)
  have S2 : St h₀ I (((h.push lo).objs.size, Loc []) :: (h.objs.size, PL #[]) :: (it, N 0) :: C) h₁ :=
    S1.fresh (size_none _) (fun a o e => hsb₂.extBut a o (fun q => by have e' := e; rw [q, size_none] at e'; cases e') (Heap.get?_push_of_some _ e)) (loc_of hns₂ fun _ _ e => by cases e)
  show codeAny _ _ (.compStart (.ListComp elt [⟨.Name x px, iter, ifs, 0⟩] scope pos) 0 (.ref it) (.ref h.objs.size) (compEnvC scope cl (h.push lo).objs.size env)) (compPost _ _ _ use Q (.ref h.objs.size) (h.push lo).objs.size) (sh b h₁ tk)
  clear hsb₁ hsb₂ hns₂ S1
  generalize (h.push lo).objs.size = Lc at S2 ⊢
  generalize h.objs.size = acc at S2 ⊢
  have loop : codeAny (model P0 w) A (.compLoop (.ListComp elt [⟨.Name x px, iter, ifs, 0⟩] scope pos) 0 (.ref it) (.ref acc) (compEnvC scope cl Lc env)) (compPost (model P0 w) A E use Q (.ref acc) Lc) (sh b h₁ tk) := by
    refine codeAny_compLoop_tests (fun m s => ∃ i I' ys C' h tk lv, m + i = n ∧ s = sh b h tk ∧ Le I I' ∧ Inv i I' ys C' ∧ ys.length ≤ i ∧ St h₀ I' ((Lc, Loc lv) :: (acc, PL ys.toArray) :: (it, N i) :: C') h) ?_ n
      ⟨0, I, [], C, h₁, tk, [], rfl, rfl, Le.rfl, h0, Nat.le_refl _, S2⟩
    rintro m s ⟨i, I', ys, C', h, tk, lv, hm, rfl, k, hv, hys, S⟩
    by_cases hi : i < n
    · refine HI.next hA (hle.trans k) hi (S.perm (.cons _ (.swap _ _ _))) fun v h' tk' hP S' => ?_
      refine wpAny_assign_Name (stL (S'.perm (.cons _ (.swap _ _ _))) (fun h₂ tk₂ S₂ => ?_) (by simp [compEnvC, relabel, hkind]) (lookup_relabel_local hx))
      refine wpAny_mono (turn i I' ys C' Lc acc h₂ tk₂ v hi hv k hP (S₂.mono loc1) _ id) (fun ok s₃ z => ?_) fun _ _ z => z.elim
      by_cases ho : ok = true
      · rw [if_pos ho] at z ⊢
        refine wpAny_mono z (fun y s₄ z => ?_) fun _ _ z => z.elim
        obtain ⟨I'', C'', h'', tk'', rfl, k', hv', S''⟩ := z
        refine wpAny_list_append_plain S''.plain2 (fun h₃ hl hsb => ?_) (by rw [sizeLine_eq, List.size_toArray]; omega)
        refine ⟨m - 1, by omega, i + 1, I'', ys ++ [y], C'', h₃, tk'', [(x, v)], by omega, rfl, k.trans k', hv', by simp; omega, ?_⟩
        have := S''.same2 hsb.extBut (of_plain hl)
        rwa [List.push_toArray] at this
      · rw [if_neg ho] at z ⊢
        obtain ⟨I'', C'', h'', tk'', rfl, k', hv', S''⟩ := z
        exact ⟨m - 1, by omega, i + 1, I'', ys, C'', h'', tk'', [(x, v)], by omega, rfl, k.trans k', hv', by omega, S''⟩
    · obtain rfl : i = n := by omega
      refine HI.over hA (hle.trans k) (S.perm (.cons _ (.swap _ _ _))) fun h' tk' S' => ?_
      exact done I' ys C' Lc lv acc h' tk' _ hv k S'
  exact codeAny_compStart_list loop (HI.self hA hle S2 (let ⟨o, e, z⟩ := S2.tail.tail.head; ⟨o, e, z⟩) loop)
theorem compF {Q : Value → Shared → Prop} {elt iter : Expr} {ifs : List Expr} {x : Str} {px pos : Pos} {scope : Scope} {env : Env} {cl : List (Str × Addr)} (hA : A.handled = none) (hclos : closureFor scope env = pure cl)
    (hcell : (scope.names.all fun x => x.2 != .cell) = true) (hkind : scope.kind = .function) (hnames : (scope.names.all fun y => y.2 != .local || scope.names.lookup y.1 == some .local) = true) (hx : scope.names.lookup x = some .local)
    (hiter : ∀ HP : Value → Shared → Prop, (∀ {iv s₂}, (∃ it I I₁ n P N h tk C b, ∃ Inv : Nat → Fz → List Value → List Cell → Prop, iv = .ref it ∧ s₂ = sh b h tk ∧ Iter w I₁ it n P N ∧ n ≤ 100000 ∧ Le I₁ I ∧ St h₀ I ((it, N 0) :: C) h ∧ Inv 0 I [] C ∧
      (∀ i I' ys C' Lc acc h tk v, i < n → Inv i I' ys C' → Le I I' → P i v → St h₀ I' ((Lc, Loc [(x, v)]) :: (acc, PL ys.toArray) :: (it, N (i + 1)) :: C') h →
        ∀ Nx : List Value → Shared → Prop, (∀ {zs s}, (∃ I'' C'' h'' tk'', s = sh b h'' tk'' ∧ Le I' I'' ∧ Inv (i + 1) I'' zs C'' ∧ St h₀ I'' ((Lc, Loc [(x, v)]) :: (acc, PL ys.toArray) :: (it, N (i + 1)) :: C'') h'') → Nx zs s) →
        wpAny (model P0 w) A (forIn ifs true fun c r => if r = true then do let ok ← isTrue c (compEnvC scope cl Lc env) (eval c (compEnvC scope cl Lc env)); pure (ForInStep.yield ok) else pure (ForInStep.yield r))
          (fun ok s₃ => if ok = true then wpAny (model P0 w) A (eval elt (compEnvC scope cl Lc env)) (fun y s₄ => Nx (ys ++ [y]) s₄) (fun _ _ => False) s₃
            else Nx ys s₃) (fun _ _ => False) (sh b h tk)) ∧
      (∀ I' ys C' acc h tk, Inv n I' ys C' → Le I I' → St h₀ I' ((acc, PL ys.toArray) :: C') h → Q (.ref acc) (sh b h tk))) → HP iv s₂) → wpAny (model P0 w) A (eval iter env) (fun xv s₁ => wpAny (model P0 w) A (pyIter xv) HP E s₁) E s)
    (hs : ∀ x, foldedSetIterable iter env x = pure x := by intro _; rfl) :
    wpAny (model P0 w) A (eval (.ListComp elt [⟨.Name x px, iter, ifs, 0⟩] scope pos) env) Q E s := by
  rw [eval_ListComp]
  refine compG (h₀ := h₀) hA rfl hclos hcell hkind hnames hx (fun HP hp => hiter HP fun h₂ => hp ?_) hs
  obtain ⟨it, I, I₁, n, P, N, h, tk, C, b, Inv, e1, e2, HI, hn, hle, S, h0, turn, done⟩ := h₂
  refine ⟨it, I, I₁, n, P, N, h, tk, C, b, Inv, e1, e2, HI, hn, hle, S, h0, turn, fun I' ys C' Lc lv acc h tk r hv k S' => ?_⟩
  obtain ⟨m', n', _⟩ := S'.ns
  exact ⟨m', n', fun h'' hs'' => done I' ys C' acc h'' tk hv k (S'.drop hs''.extBut)⟩
theorem compA {Q : Flow → Shared → Prop} {y : Str} {py spos : Pos} {elt iter : Expr} {ifs : List Expr} {x : Str} {px pos : Pos} {scope : Scope} {env : Env} {cl : List (Str × Addr)} (hA : A.handled = none) (hy : env.kindOf y = some .local) (hkf : env.scope.kind = .function) (hsw : swapsWith (.ListComp elt [⟨.Name x px, iter, ifs, 0⟩] scope pos) (some (.Name y py)) spos.line env = pure true) (hclos : closureFor scope env = pure cl)
    (hcell : (scope.names.all fun x => x.2 != .cell) = true) (hkind : scope.kind = .function) (hnames : (scope.names.all fun y => y.2 != .local || scope.names.lookup y.1 == some .local) = true) (hx : scope.names.lookup x = some .local)
    (hiter : ∀ HP : Value → Shared → Prop, (∀ {iv s₂}, (∃ it I I₁ n P N h tk C b, ∃ Inv : Nat → Fz → List Value → List Cell → Prop, iv = .ref it ∧ s₂ = sh b h tk ∧ Iter w I₁ it n P N ∧ n ≤ 100000 ∧ Le I₁ I ∧ St h₀ I ((it, N 0) :: C) h ∧ Inv 0 I [] C ∧
      (∀ i I' ys C' Lc acc h tk v, i < n → Inv i I' ys C' → Le I I' → P i v → St h₀ I' ((Lc, Loc [(x, v)]) :: (acc, PL ys.toArray) :: (it, N (i + 1)) :: C') h →
        ∀ Nx : List Value → Shared → Prop, (∀ {zs s}, (∃ I'' C'' h'' tk'', s = sh b h'' tk'' ∧ Le I' I'' ∧ Inv (i + 1) I'' zs C'' ∧ St h₀ I'' ((Lc, Loc [(x, v)]) :: (acc, PL ys.toArray) :: (it, N (i + 1)) :: C'') h'') → Nx zs s) →
        wpAny (model P0 w) A (forIn ifs true fun c r => if r = true then do let ok ← isTrue c (compEnvC scope cl Lc env) (eval c (compEnvC scope cl Lc env)); pure (ForInStep.yield ok) else pure (ForInStep.yield r))
          (fun ok s₃ => if ok = true then wpAny (model P0 w) A (eval elt (compEnvC scope cl Lc env)) (fun y s₄ => Nx (ys ++ [y]) s₄) (fun _ _ => False) s₃
            else Nx ys s₃) (fun _ _ => False) (sh b h tk)) ∧
      (∀ I' ys C', Inv n I' ys C' → Le I I' → ∃ l C'', C' = (env.locals, Loc l) :: C'' ∧ ∀ acc h tk, St h₀ I' ((env.locals, Loc ((y, .ref acc) :: l)) :: (acc, PL ys.toArray) :: C'') h → Q .next (sh b h tk))) → HP iv s₂) → wpAny (model P0 w) A (eval iter env) (fun xv s₁ => wpAny (model P0 w) A (pyIter xv) HP E s₁) E s)
    (hs : ∀ x, foldedSetIterable iter env x = pure x := by intro _; rfl) :
    wpAny (model P0 w) A (exec (.Assign [.Name y py] (.ListComp elt [⟨.Name x px, iter, ifs, 0⟩] scope pos) spos) env) Q E s := by
  rw [exec_Assign_Name_used _ _ _ _ hsw]
  refine wpAny_bind (wpAny_standAt (wpAny_bind ?_))
  show wpAny _ A (do let _ ← comprehension (.ListComp elt [⟨.Name x px, iter, ifs, 0⟩] scope pos) scope env _ (newList []) false (eval iter env) (some (assign (.Name y py) env))) _ _ s
  refine wpAny_bind (wpAny_mono (compG (h₀ := h₀) (use := some (assign (.Name y py) env)) (Q := fun _ s' => Q .next s') hA rfl hclos hcell hkind hnames hx (fun HP hp => hiter HP fun h₂ => hp ?_) hs) (fun _ s' hq => wpAny_pure (wpAny_pure hq)) fun _ _ e => e)
  obtain ⟨it, I, I₁, n, P, N, h, tk, C, b, Inv, e1, e2, HI, hn, hle, S, h0, turn, done⟩ := h₂
  refine ⟨it, I, I₁, n, P, N, h, tk, C, b, Inv, e1, e2, HI, hn, hle, S, h0, turn, fun I' ys C' Lc lv acc h tk r hv k S' => ?_⟩
  obtain ⟨l, C'', rfl, dn⟩ := done I' ys C' hv k
  show wpAny _ A (assign (.Name y py) env (.ref acc)) _ _ _
  have S2 : St h₀ I' ((env.locals, Loc l) :: (Lc, Loc lv) :: (acc, PL ys.toArray) :: C'') h := S'.perm ((List.perm_middle (l₁ := [(Lc, Loc lv), (acc, PL ys.toArray)])))
  refine wpAny_assign_Name (stL S2 (fun h2 tk2 S3 => ?_) hkf hy)
  have S4 := S3.swap
  obtain ⟨m', n', _⟩ := S4.ns
  refine ⟨m', n', fun h'' hs'' => ?_⟩
  exact dn acc h'' tk2 (S4.drop hs''.extBut)
end
end
open PySem PySem.W PyProof.Rows PySem.Calls PySem.Spec
-- steps of the syntax alone
local macro_rules | `(tactic| walk_at "z") => `(tactic| (first
  | with_reducible (first
    | refine wpAny_execs_cons ?_
    | refine wpAny_execs_nil ?_
    | refine wpAny_Return_some ?_
    | refine wpAny_If ?_
    | refine wpAny_IfExp ?_
    | refine wpAny_BinOp ?_
    | refine ifT ?_
    | refine ifF ?_
    | refine isTrue_not ?_
    | refine isTrue_and_nil ?_
    | refine isTrue_and ?_
    | refine isTrue_or_nil ?_
    | refine isTrue_or ?_
    | refine Subscript_ ?_
    | refine BoolOp_one ?_
    | refine BoolOp_and ?_
    | refine BoolOp_or ?_
    | refine wpAny_Constant_none ?_
    | refine wpAny_Constant_bool ?_
    | refine wpAny_truthy_bool ?_
    | refine evTuple ?_
    | refine evList ?_
    | refine wpAny_items_nil ?_
    | refine wpAny_Continue ?_)
  | ((with_reducible refine wpAny_Assign_Name ?_ ?hs); (case hs => with_unfolding_all rfl))
  | ((with_reducible refine Assign_Tuple ?_ ?hs ?hw); (case hs => with_unfolding_all rfl); (case hw => with_unfolding_all rfl))
  | ((with_reducible refine plainObj_wpAny_Assign_Attribute ?_ ?hs); (case hs => with_unfolding_all rfl))
  | ((with_reducible refine wpAny_Assign_Subscript ?_ ?hs); (case hs => with_unfolding_all rfl))
  | ((with_reducible refine wpAny_isTrue_Compare1 ?_ ?hs); (case hs => with_unfolding_all rfl))
  | ((with_reducible refine isTrue_plain ?_ ?hs); (case hs => with_unfolding_all rfl))
  | ((with_reducible refine wpAny_Compare1 ?_ ?hs); (case hs => with_unfolding_all rfl))
  | ((with_reducible refine Attribute_any_ ?_ ?hs); (case hs => with_unfolding_all rfl))
  | ((with_reducible refine wpAny_items_cons ?_ ?hs); (case hs => rfl))
  | ((with_reducible refine Call_ ?_ ?hs); (case hs => rfl))
  | ((with_reducible refine MethodCall_ (pl := ?pl) ?_ ?hs); (case hs => with_unfolding_all rfl))
  | ((with_reducible refine wpAny_Expr ?_ ?hs ?hi); (case hs => rfl); (case hi => rfl))
  | ((with_reducible refine PyProof.Rows.callWith_builtin1 ?_ ?e1 ?e2); (case e1 => rfl); (case e2 => rfl))
  | ((with_reducible refine PyProof.Rows.callWith_method1 ?_ ?e1 ?e2); (case e1 => rfl); (case e2 => rfl))
  | ((with_reducible refine PyProof.Rows.callWith_type1 ?_ ?e1 ?e2); (case e1 => rfl); (case e2 => rfl))
  | ((with_reducible refine callWith_K (K := KK _) (Wd.X (by assumption)) ?hk ?_ ?e1 ?e2); (case hk => kernel_rfl); (case e1 => rfl); (case e2 => rfl))
  ))
-- a name
local macro_rules | `(tactic| walk_at "n") => `(tactic| (first
  | ((with_reducible refine nmL (h₀ := ?h0) (I := ?i0) (C := ?c0) (l := ?l0) (v := ?vv) ?k1 ?k2 ?_ ?k3 ?k4 ?k5); (case k1 => assumption); (case k2 | k3 | k4 | k5 => exact rfl))
  | ((with_reducible refine nmG (h₀ := ?h0) (I := ?i0) (C := ?c0) ?k0 ?k1 (gv ?pp (by constructor)) ?_ ?k3 ?k4 ?k5 ?k6); (case k0 => assumption); (case k1 => assumption); (case k3 | k4 | k5 | k6 => exact rfl))
  | ((with_reducible refine nmB (h₀ := ?h0) (I := ?i0) (C := ?c0) ?k0 ?k1 (bvn ?pp (by constructor)) (bvv (by constructor)) ?kn ?_ ?k3 ?k4 ?k5 ?k6 ?k7); (case k0 => assumption); (case kn => decide); (case k1 => assumption); (case k3 | k4 | k5 | k6 | k7 => exact rfl))
  | ((with_reducible refine nmC (h₀ := ?h0) (I := ?i0) (C := ?c0) (c := ?c1) (v := ?vv) ?k1 ?k0 ?k2 ?_ ?k3 ?k4 ?k5); (case k1 => assumption); (case k2 => exact rfl); (case k0 => assumption); (case k3 | k4 | k5 => exact rfl))))
-- a def's or a class's call, its arguments known
local macro_rules | `(tactic| walk_at "k") => `(tactic| refine ⟨St.Kin (by assumption) (by assumption), ?_⟩)
-- ints and other simple values
local macro_rules | `(tactic| walk_at "i") => `(tactic| (first
  | ((with_reducible refine cInt ?_); intro _ _)
  | ((with_reducible refine cStr ?_); intro _ _)
  | ((with_reducible refine addI ?_); intro _ _)
  | ((with_reducible refine subI ?_); intro _ _)
  | with_reducible refine gt_int ?_
  | with_reducible refine lt_int ?_
  | with_reducible refine eqI ?_
  | ((with_reducible refine neSt ?hs ?_); (case hs => rfl))
  | ((with_reducible refine neSf ?hs ?_); (case hs => decide +kernel))
  | ((with_reducible refine eqSt ?hs ?_); (case hs => rfl))
  | ((with_reducible refine eqSf ?hs ?_); (case hs => decide +kernel))
  ))
-- a store to a plain local
local macro_rules | `(tactic| walk_at "s") => `(tactic| ((with_reducible refine stL (h₀ := ?h0) (I := ?i0) (C := ?c0) (l := ?l0) ?k1 ?kq ?k3 ?k4); (case k1 => assumption); (case k3 | k4 => exact rfl)))
-- all of them, while they last
local macro_rules | `(tactic| walk_at "g") => `(tactic| repeat (first | walk_at "z" | walk_at "i" | walk_at "n" | dsimp only))
-- a few steps alone
local macro_rules | `(tactic| walk_at "h") => `(tactic| repeat (first | with_reducible refine wpAny_truthy_bool ?_ | with_reducible refine ifF ?_ | with_reducible refine isTrue_or_nil ?_ | with_reducible refine isTrue_or ?_ | ((with_reducible refine isTrue_plain ?_ ?hs); (case hs => with_unfolding_all rfl)) | with_reducible refine wpAny_execs_nil ?_ | dsimp only))
section -- D1
open PySem PySem.W PyProof.Rows PySem.Calls PySem.Spec
set_option maxRecDepth 100000
section
variable {w : World} {A : Around} {E : Value → Shared → Prop} {b : Bs} {h : Heap} {tk : Nat} {h₀ : Heap} {I : Fz} {C : List Cell} {Q : Value → Shared → Prop} {a : Addr} {n c m : Int} {t u tm : Tok}
set_option maxHeartbeats 1000000
theorem draw_spec (W : Wd (KK w.params) h₀) (R : Rm A 5) (S : St h₀ I ((a, ListO #[.int n t, .int c u]) :: C) h) (hn : 0 ≤ n) (hc : 0 ≤ c) (hc2 : c < 2 ^ 30) (hm : 0 < m) (hm2 : m ≤ 64)
    (q : ∀ d n' t' u' td h' tk', 0 ≤ d → d < m → 0 ≤ n' → St h₀ I ((a, ListO #[.int n' t', .int (c + 1) u']) :: C) h' → Q (.int d td) (sh b h' tk')) :
    wpAny (model P0 w) A (call (.ref 394) [.ref a, .int m tm]) Q E (sh b h tk) := by
  refine callP W R S (f_law_draw w.params) (binds := [(Str.ofString "pen", .ref a), (Str.ofString "many", .int m tm)]) (fun pm => BindsTo.of_eq (by kernel_rfl)) (by kernel_rfl) (by kernel_rfl) rfl rfl rfl fun A' L h₁ tk1 R' S' => ?_
  refine wpAny_execs_cons ?_
  walk_at "g"
  refine item_list (x := .int c u) S'.list2 (by decide) (by decide) (by rfl) ?_
  walk_at "g"
  refine wpAny_setItem_list S'.list2 (by decide) (by decide) (by simp) fun h2 hl2 hs2 => ?_
  have S2 := S'.same2 hs2.extBut (of_isList hl2)
  clear S' hl2 hs2
  change wpAny _ _ _ _ _ (sh b h2 _)
  walk_at "g"
  refine item_list (x := .int n t) S2.list2 (by decide) (by decide) (by rfl) ?_
  walk_at "g"
  by_cases hgt : n > 0
  · rw [decide_eq_true hgt, if_pos rfl]
    walk_at "g"
    refine item_list (x := .int n t) S2.list2 (by decide) (by decide) (by rfl) ?_
    walk_at "g"
    refine modI hm fun td _ => ?_
    walk_at "s"; intro h3 _ S3; clear S2
    walk_at "g"
    refine item_list (x := .int n t) S3.list2 (by decide) (by decide) (by rfl) ?_
    walk_at "g"
    refine divI hm (by omega) fun _ _ => ?_
    walk_at "g"
    refine wpAny_setItem_list S3.list2 (by decide) (by decide) (by simp) fun h4 hl4 hs4 => ?_
    have S4 := S3.same2 hs4.extBut (of_isList hl4)
    clear S3 hl4 hs4
    change wpAny _ _ _ _ _ (sh b h4 _)
    walk_at "g"
    exact q _ _ _ _ _ _ _ (Int.fmod_nonneg (by omega) (by omega)) (Int.fmod_lt_of_pos _ hm) (Int.fdiv_nonneg (by omega) (by omega)) S4.tail
  · rw [decide_eq_false hgt, if_neg Bool.false_ne_true]
    walk_at "g"
    refine item_list (x := .int (c + 1) _) S2.list2 (by decide) (by decide) (by rfl) ?_
    walk_at "g"
    refine item_list (x := .int (c + 1) _) S2.list2 (by decide) (by decide) (by rfl) ?_
    refine mulI (.of_left (PySem.intBits_le_64 (by omega) (by omega))) fun _ _ => ?_
    walk_at "g"
    refine modI hm fun td _ => ?_
    walk_at "g"
    refine q _ _ _ _ _ _ _ (Int.fmod_nonneg ?_ (by omega)) (Int.fmod_lt_of_pos _ hm) hn S2.tail
    have := Int.mul_nonneg (show (0:Int) ≤ c + 1 by omega) (show (0:Int) ≤ c + 1 by omega); omega
end
end
section -- D2
open PySem PySem.W PyProof.Rows PySem.Calls PySem.Spec
set_option maxRecDepth 100000
theorem eX {h₀ h : Heap} {I : Fz} {C : List Cell} {c d : Cell} {x : Addr} {o o' : Obj} (S : St h₀ I (c :: d :: (x, fun o => o = o') :: C) h) (e : o' = o) : h.get? x = some o := by
  obtain ⟨o1, h1, e1⟩ := S.tail.tail.head; rw [h1, e1, e]
theorem St.frzI {h₀ h : Heap} {I : Fz} {C : List Cell} {dx x Cl : Addr} {l : List (Str × Value)} (S : St h₀ I ((dx, AttO l) :: (x, fun o => o = instObj Cl dx) :: C) h) : ∃ I', Le I I' ∧ InstF I' x Cl l ∧ St h₀ I' C h := by
  obtain ⟨o, ho, S1⟩ := S.freeze
  obtain ⟨o', rfl, S2⟩ := S1.freeze
  exact ⟨_, Add.le.trans Add.le, ⟨dx, o, Add.new, Add.le _ _ Add.new, ho⟩, S2⟩
set_option maxHeartbeats 1000000
section
variable {w : World} {A : Around} {E : Value → Shared → Prop} {b : Bs} {h : Heap} {tk : Nat} {h₀ : Heap} {I : Fz} {C : List Cell} {Q : Value → Shared → Prop} {a : Addr}
theorem newRef {v1 v2 : Value} (W : Wd (KK w.params) h₀) (R : Rm A 5) (S : St h₀ I C h)
    (q : ∀ x I' h' tk', Le I I' → InstF I' x 242 [(Str.ofString "generation", v2), (Str.ofString "number", v1)] → St h₀ I' C h' → Q (.ref x) (sh b h' tk')) :
    wpAny (model P0 w) A (call (.ref 242) [v1, v2]) Q E (sh b h tk) := by
  refine newI (k := 3) (binds := fun x => [(Str.ofString "self", .ref x), (Str.ofString "number", v1), (Str.ofString "generation", v2)]) W R S (by kernel_rfl) (by kernel_rfl) (f_Reference_init w.params) (fun pm h' x tk' _ => BindsTo.of_eq (by kernel_rfl)) (fun x => by kernel_rfl) (by kernel_rfl) rfl rfl rfl fun A' x dx L h₁ tk1 R' S' => ?_
  refine wpAny_execs_cons ?_
  walk_at "g"
  refine setA (K := KK w.params) (Cl := 242) W S' (eX S' rfl) (by simp) (by kernel_rfl) (by kernel_rfl) (by kernel_rfl) (by kernel_rfl) fun h2 tk2 S2 => ?_
  walk_at "g"
  refine setA (K := KK w.params) (Cl := 242) W S2 (eX S2 rfl) (by simp) (by kernel_rfl) (by kernel_rfl) (by kernel_rfl) (by kernel_rfl) fun h3 tk3 S3 => ?_
  walk_at "g"
  refine ⟨rfl, ?_⟩
  obtain ⟨I', k, i, F⟩ := S3.tail.frzI
  exact q _ _ _ _ k i F
theorem newName {v1 : Value} (W : Wd (KK w.params) h₀) (R : Rm A 5) (S : St h₀ I C h)
    (q : ∀ x I' h' tk', Le I I' → InstF I' x 171 [(Str.ofString "text", v1)] → St h₀ I' C h' → Q (.ref x) (sh b h' tk')) :
    wpAny (model P0 w) A (call (.ref 171) [v1]) Q E (sh b h tk) := by
  refine newI (k := 3) (binds := fun x => [(Str.ofString "self", .ref x), (Str.ofString "text", v1)]) W R S (by kernel_rfl) (by kernel_rfl) (f_Name_init w.params) (fun pm h' x tk' _ => BindsTo.of_eq (by kernel_rfl)) (fun x => by kernel_rfl) (by kernel_rfl) rfl rfl rfl fun A' x dx L h₁ tk1 R' S' => ?_
  refine wpAny_execs_cons ?_
  walk_at "g"
  refine setA (K := KK w.params) (Cl := 171) W S' (eX S' rfl) (by simp) (by kernel_rfl) (by kernel_rfl) (by kernel_rfl) (by kernel_rfl) fun h2 tk2 S2 => ?_
  walk_at "g"
  refine ⟨rfl, ?_⟩
  obtain ⟨I', k, i, F⟩ := S2.tail.frzI
  exact q _ _ _ _ k i F
theorem newStream {v1 v2 : Value} (W : Wd (KK w.params) h₀) (R : Rm A 5) (S : St h₀ I C h)
    (q : ∀ x I' h' tk', Le I I' → InstF I' x 214 [(Str.ofString "octets", v2), (Str.ofString "head", v1)] → St h₀ I' C h' → Q (.ref x) (sh b h' tk')) :
    wpAny (model P0 w) A (call (.ref 214) [v1, v2]) Q E (sh b h tk) := by
  refine newI (k := 3) (binds := fun x => [(Str.ofString "self", .ref x), (Str.ofString "head", v1), (Str.ofString "octets", v2)]) W R S (by kernel_rfl) (by kernel_rfl) (f_Stream_init w.params) (fun pm h' x tk' _ => BindsTo.of_eq (by kernel_rfl)) (fun x => by kernel_rfl) (by kernel_rfl) rfl rfl rfl fun A' x dx L h₁ tk1 R' S' => ?_
  refine wpAny_execs_cons ?_
  walk_at "g"
  refine setA (K := KK w.params) (Cl := 214) W S' (eX S' rfl) (by simp) (by kernel_rfl) (by kernel_rfl) (by kernel_rfl) (by kernel_rfl) fun h2 tk2 S2 => ?_
  walk_at "g"
  refine setA (K := KK w.params) (Cl := 214) W S2 (eX S2 rfl) (by simp) (by kernel_rfl) (by kernel_rfl) (by kernel_rfl) (by kernel_rfl) fun h3 tk3 S3 => ?_
  walk_at "g"
  refine ⟨rfl, ?_⟩
  obtain ⟨I', k, i, F⟩ := S3.tail.frzI
  exact q _ _ _ _ k i F
end
end
section -- F6
open PySem PySem.W PyProof.Rows PySem.Calls PySem.Spec
set_option maxRecDepth 100000
set_option linter.unusedVariables false
inductive All2 {α β : Type} (R : α → β → Prop) : List α → List β → Prop
  | nil : All2 R [] []
  | cons {a b l m} (x : R a b) (y : All2 R l m) : All2 R (a :: l) (b :: m)
theorem All2.imp {α β : Type} {R S : α → β → Prop} (f : ∀ a b, R a b → S a b) : ∀ {l m}, All2 R l m → All2 S l m
  | [], [], .nil => .nil
  | _ :: _, _ :: _, .cons a b => .cons (f _ _ a) (All2.imp f b)
theorem All2.len {α β : Type} {R : α → β → Prop} : ∀ {l m}, All2 R l m → l.length = m.length
  | [], [], .nil => rfl
  | _ :: _, _ :: _, .cons a b => congrArg (· + 1) b.len
noncomputable abbrev sK (w : World) : PySem.KeyKind P0 w Str := PySem.strKind P0 w
noncomputable abbrev iK (w : World) : PySem.KeyKind P0 w Int := PySem.intKind P0 w
section
variable {w : World} {K : Type} [DecidableEq K]
noncomputable def DicC (knd : PySem.KeyKind P0 w K) (d : Addr) (kvs : List (K × Value)) : Obj → Prop := fun o => d ≠ sysModules ∧ o.IsDictOf knd kvs
noncomputable def DicH (knd : PySem.KeyKind P0 w K) (h : Heap) (d : Addr) (kvs : List (K × Value)) : Prop := d ≠ sysModules ∧ h.DictOf knd d kvs
noncomputable def DicF (knd : PySem.KeyKind P0 w K) (I : Fz) (d : Addr) (kvs : List (K × Value)) : Prop := ∃ o, I d o ∧ DicC knd d kvs o
end
section
variable {w : World} {K : Type} [DecidableEq K] {A : Around} {E : Value → Shared → Prop} {b : Bs} {h h' : Heap} {tk : Nat} {h₀ : Heap} {I J : Fz} {C : List Cell} {d : Addr} {kvs : List (K × Value)} {knd : PySem.KeyKind P0 w K} {k : K} {key v : Value} {c c1 c2 : Cell} {a : Addr} {P P' : Obj → Prop}
theorem DicF.le (x : DicF knd I d kvs) (k : Le I J) : DicF knd J d kvs := let ⟨o, a, b⟩ := x; ⟨o, k _ _ a, b⟩
theorem DicF.dh (x : DicF knd I d kvs) (S : St h₀ I C h) : DicH knd h d kvs := let ⟨o, a, b⟩ := x; ⟨b.1, Heap.dictOf_iff.mpr ⟨o, S.fz _ _ a, b.2⟩⟩
theorem DicH.ofC (x : ∃ o, h.get? d = some o ∧ DicC knd d kvs o) : DicH knd h d kvs := let ⟨o, a, b⟩ := x; ⟨b.1, Heap.dictOf_iff.mpr ⟨o, a, b.2⟩⟩
theorem DicH.ns (x : DicH knd h d kvs) : (d == sysModules) = false := beq_eq_false_iff_ne.mpr x.1
theorem St.same3 (S : St h₀ I (c :: c1 :: (a, P) :: C) h) (k : Heap.ExtBut a h h') (x : ∃ o, h'.get? a = some o ∧ P' o) : St h₀ I (c :: c1 :: (a, P') :: C) h' :=
  ((S.perm (D := (a, P) :: c :: c1 :: C) (List.perm_middle (l₁ := [c, c1]))).same k x).perm (List.perm_middle (l₁ := [c, c1])).symm
theorem St.same4 (S : St h₀ I (c :: c1 :: c2 :: (a, P) :: C) h) (k : Heap.ExtBut a h h') (x : ∃ o, h'.get? a = some o ∧ P' o) : St h₀ I (c :: c1 :: c2 :: (a, P') :: C) h' :=
  ((S.perm (D := (a, P) :: c :: c1 :: c2 :: C) (List.perm_middle (l₁ := [c, c1, c2]))).same k x).perm (List.perm_middle (l₁ := [c, c1, c2])).symm
theorem big (W : Wd (KK w.params) h₀) (S : St h₀ I C h) : h.objs.size ≠ sysModules := by
  have e : ((KK w.params).lookup 423).isSome = true := by kernel_rfl
  obtain ⟨o, e⟩ := Option.isSome_iff_exists.mp e
  have := Heap.lt_size (S.Kin W _ _ e)
  show h.objs.size ≠ 1
  intro q
  have hh : 423 < h.objs.size := this
  omega
theorem dNew {Q : Value → Shared → Prop} {env : Env} {pos : Pos} (knd : PySem.KeyKind P0 w K) (W : Wd (KK w.params) h₀) (S : St h₀ I C h) (q : ∀ d h' , St h₀ I ((d, DicC knd d []) :: C) h' → Q (.ref d) (sh b h' tk)) :
    wpAny (model P0 w) A (eval (.Dict [] [] pos) env) Q E (sh b h tk) := by
  refine wpAny_Dict_empty (q h.objs.size _ (S.push ⟨big W S, ?_⟩ rfl))
  obtain ⟨o, e, x⟩ := Heap.dictOf_iff.mp (Heap.DictOf.new (knd := knd) h)
  rw [Heap.get?_push_size _ rfl] at e; cases e; exact x
theorem dSet {Q : Unit → Shared → Prop} (x : DicH knd h d kvs) (hk : knd.is k key = true) (hz : kvs.length ≤ 100000)
    (q : ∀ h' tk', Heap.ExtBut d h h' → (∃ o, h'.get? d = some o ∧ DicC knd d (stored kvs k v) o) → Q () (sh b h' tk')) : wpAny (model P0 w) A (setItem (.ref d) key v) Q E (sh b h tk) :=
  wpAny_setItem_pairs hk x.2 (fun h' hd hs => q h' _ hs.extBut (let ⟨o, e, y⟩ := Heap.dictOf_iff.mp hd; ⟨o, e, x.1, y⟩)) (by rw [sizeLine_eq]; omega)
theorem dGet {Q : Value → Shared → Prop} (x : DicH knd h d kvs) (hk : knd.is k key = true) (hv : valueAt kvs k = some v) (q : ∀ tk', Q v (sh b h tk')) : wpAny (model P0 w) A (getItem (.ref d) key) Q E (sh b h tk) :=
  wpAny_getItem_of hk x.2.mapOf hv (q _)
theorem dIn {Q : Value → Shared → Prop} (x : DicH knd h d kvs) (hk : knd.is k key = true) (q : ∀ tk', Q (.bool (valueAt kvs k).isSome) (sh b h tk')) : wpAny (model P0 w) A (compareOp .In key (.ref d)) Q E (sh b h tk) :=
  wpAny_in_of hk x.ns x.2.mapOf (q _)
theorem dNotIn {Q : Value → Shared → Prop} (x : DicH knd h d kvs) (hk : knd.is k key = true) (q : ∀ tk', Q (.bool (!(valueAt kvs k).isSome)) (sh b h tk')) : wpAny (model P0 w) A (compareOp .NotIn key (.ref d)) Q E (sh b h tk) :=
  wpAny_notIn_of hk x.ns x.2.mapOf (q _)
end
inductive D where
  | null | int (n : Int) | name (s : Str) | ref (n g : Int) | arr (l : List D) | dict (l : List (Str × D)) | stream (h : D) (o : Array UInt8)
noncomputable def okNames : List Str := [Str.ofString "M", Str.ofString "N", Str.ofString "Page"]
noncomputable def okKeys : List Str := [Str.ofString "A", Str.ofString "B", Str.ofString "C", Str.ofString "Type", Str.ofString "Root", Str.ofString "Info", Str.ofString "Size", Str.ofString "Prev"]
noncomputable def valKeys : List Str := [Str.ofString "A", Str.ofString "B", Str.ofString "C"]
noncomputable def smallI (i : Int) : Prop := 0 ≤ i ∧ i < 50
noncomputable def okRow (p : Str × D) : Prop := p.1 ∈ okKeys ∧ (p.1 = Str.ofString "Type" → p.2 = .name (Str.ofString "Page"))
theorem okRow_val {p : Str × D} (h : p.1 ∈ valKeys) : okRow p := by
  refine ⟨(by revert h; generalize p.1 = x; revert x; decide +kernel : p.1 ∈ okKeys), fun e => ?_⟩
  rw [e] at h; exact absurd h (by decide +kernel)
noncomputable def IsD (w : World) (I : Fz) : Nat → D → Value → Prop
  | 0, _, _ => False
  | _ + 1, .null, v => v = .none
  | _ + 1, .int i, v => ∃ t, v = .int i t ∧ smallI i
  | _ + 1, .name s, v => ∃ x t, v = .ref x ∧ InstF I x 171 [(Str.ofString "text", .str s t)] ∧ s ∈ okNames
  | _ + 1, .ref i g, v => ∃ x t u, v = .ref x ∧ InstF I x 242 [(Str.ofString "generation", .int g t), (Str.ofString "number", .int i u)] ∧ smallI i ∧ smallI g
  | n + 1, .arr l, v => ∃ x vs o, v = .ref x ∧ I x o ∧ ListO (List.toArray vs) o ∧ All2 (IsD w I n) l vs ∧ l.length ≤ 10
  | n + 1, .dict l, v => ∃ x kvs, v = .ref x ∧ DicF (sK w) I x kvs ∧ All2 (fun (p : Str × D) (q : Str × Value) => p.1 = q.1 ∧ IsD w I n p.2 q.2) l kvs ∧ l.length ≤ 10 ∧ ∀ p ∈ l, okRow p
  | n + 1, .stream d o, v => ∃ x hv t, v = .ref x ∧ InstF I x 214 [(Str.ofString "octets", .bytes o t), (Str.ofString "head", hv)] ∧ IsD w I n d hv ∧ (∃ l, d = .dict l) ∧ (o = #[0] ∨ o = #[1])
noncomputable def Rows (w : World) (I : Fz) (n : Nat) (l : List (Str × D)) (kvs : List (Str × Value)) : Prop := All2 (fun (p : Str × D) (q : Str × Value) => p.1 = q.1 ∧ IsD w I n p.2 q.2) l kvs
theorem IsD.le {w : World} {I J : Fz} (k : Le I J) : ∀ {n : Nat} {d : D} {v : Value}, IsD w I n d v → IsD w J n d v
  | 0, _, _, x => x.elim
  | n + 1, .null, v, x => x
  | n + 1, .int i, v, x => x
  | n + 1, .name s, v, ⟨x, t, a, b, c⟩ => ⟨x, t, a, b.le k, c⟩
  | n + 1, .ref i g, v, ⟨x, t, u, a, b, c⟩ => ⟨x, t, u, a, b.le k, c⟩
  | n + 1, .arr l, v, ⟨x, vs, o, a, b, c, f, z⟩ => ⟨x, vs, o, a, k _ _ b, c, All2.imp (fun _ _ y => IsD.le k y) f, z⟩
  | n + 1, .dict l, v, ⟨x, kvs, a, b, f, z⟩ => ⟨x, kvs, a, b.le k, All2.imp (fun _ _ y => ⟨y.1, IsD.le k y.2⟩) f, z⟩
  | n + 1, .stream d o, v, ⟨x, hv, t, a, b, c, z⟩ => ⟨x, hv, t, a, b.le k, IsD.le k c, z⟩
theorem IsD.up {w : World} {I : Fz} : ∀ {n : Nat} {d : D} {v : Value}, IsD w I n d v → IsD w I (n + 1) d v
  | 0, _, _, x => x.elim
  | n + 1, .null, v, x => x
  | n + 1, .int i, v, x => x
  | n + 1, .name s, v, x => x
  | n + 1, .ref i g, v, x => x
  | n + 1, .arr l, v, ⟨x, vs, o, a, b, c, f, z⟩ => ⟨x, vs, o, a, b, c, All2.imp (fun _ _ y => IsD.up y) f, z⟩
  | n + 1, .dict l, v, ⟨x, kvs, a, b, f, z⟩ => ⟨x, kvs, a, b, All2.imp (fun _ _ y => ⟨y.1, IsD.up y.2⟩) f, z⟩
  | n + 1, .stream d o, v, ⟨x, hv, t, a, b, c, z⟩ => ⟨x, hv, t, a, b, IsD.up c, z⟩
theorem IsD.to {w : World} {I : Fz} {n m : Nat} {d : D} {v : Value} (x : IsD w I n d v) (h : n ≤ m) : IsD w I m d v := by
  induction h with
  | refl => exact x
  | step _ ih => exact ih.up
theorem Rows.le {w : World} {I J : Fz} {n : Nat} {l : List (Str × D)} {kvs : List (Str × Value)} (x : Rows w I n l kvs) (k : Le I J) : Rows w J n l kvs := All2.imp (fun _ _ y => ⟨y.1, y.2.le k⟩) x
/-- a dict that may still turn -/
noncomputable def TopC (w : World) (I : Fz) (n : Nat) (x : Addr) : Obj → Prop := fun o => ∃ l kvs, DicC (sK w) x kvs o ∧ Rows w I n l kvs ∧ l.length ≤ 9 ∧ ∀ p ∈ l, p.1 ∈ valKeys
theorem TopC.le {w : World} {I J : Fz} {n : Nat} {x : Addr} {o : Obj} (y : TopC w I n x o) (k : Le I J) : TopC w J n x o := let ⟨l, kvs, a, b, c⟩ := y; ⟨l, kvs, a, b.le k, c⟩
theorem St.frzTop {w : World} {h₀ h : Heap} {I : Fz} {n : Nat} {x : Addr} {C : List Cell} (S : St h₀ I ((x, TopC w I n x) :: C) h) : ∃ I' l, Le I I' ∧ IsD w I' (n + 1) (.dict l) (.ref x) ∧ St h₀ I' C h := by
  obtain ⟨o, ⟨l, kvs, a, b, c, d⟩, S'⟩ := S.freeze
  exact ⟨_, l, Add.le, ⟨x, kvs, rfl, ⟨o, Add.new, a⟩, Rows.le (J := Add I x o) b Add.le, by omega, fun p hp => okRow_val (d p hp)⟩, S'⟩
/-- the pen: a list of two ints -/
noncomputable def PenC (k : Int) : Obj → Prop := fun o => ∃ n c t u, 0 ≤ n ∧ 0 ≤ c ∧ c ≤ k ∧ ListO #[.int n t, .int c u] o
theorem PenC.up {k k' : Int} {o : Obj} (x : PenC k o) (h : k ≤ k') : PenC k' o := let ⟨n, c, t, u, a, b, d, e⟩ := x; ⟨n, c, t, u, a, b, by omega, e⟩
end
section -- F7
open PySem PySem.W PyProof.Rows PySem.Calls PySem.Spec
set_option maxRecDepth 100000
set_option linter.unusedVariables false
theorem All2.snoc {α β : Type} {R : α → β → Prop} {a : α} {b : β} : ∀ {l m}, All2 R l m → R a b → All2 R (l ++ [a]) (m ++ [b])
  | [], [], .nil, x => .cons x .nil
  | _ :: _, _ :: _, .cons y z, x => .cons y (All2.snoc z x)
theorem All2.map {α β γ δ : Type} {R : α → β → Prop} {S : γ → δ → Prop} {f : α → γ} {g : β → δ} (k : ∀ a b, R a b → S (f a) (g b)) : ∀ {l m}, All2 R l m → All2 S (l.map f) (m.map g)
  | [], [], .nil => .nil
  | _ :: _, _ :: _, .cons x y => .cons (k _ _ x) (All2.map k y)
noncomputable def upd (l : List (Str × D)) (k : Str) (d : D) : List (Str × D) := if l.any (fun p => p.1 = k) then l.map (fun p => if p.1 = k then (p.1, d) else p) else l ++ [(k, d)]
theorem Rows.any {w : World} {I : Fz} {n : Nat} {k : Str} {l : List (Str × D)} {kvs : List (Str × Value)} (r : Rows w I n l kvs) : l.any (fun p => p.1 = k) = kvs.any (fun p => p.1 = k) := by
  unfold Rows at r
  induction r with
  | nil => rfl
  | cons x _ ih => rw [List.any_cons, List.any_cons, x.1, ih]
theorem Rows.store {w : World} {I : Fz} {n : Nat} {l : List (Str × D)} {kvs : List (Str × Value)} {d : D} {v : Value} (hr : Rows w I n l kvs) (hd : IsD w I n d v) (k : Str) : Rows w I n (upd l k d) (stored kvs k v) := by
  unfold upd stored
  rw [hr.any]
  split
  · refine All2.map (fun a b x => ?_) hr
    by_cases h : a.1 = k
    · rw [if_pos h, if_pos (x.1 ▸ h)]; exact ⟨x.1, hd⟩
    · rw [if_neg h, if_neg (x.1 ▸ h)]; exact x
  · exact All2.snoc hr ⟨rfl, hd⟩
theorem upd_len {l : List (Str × D)} {k : Str} {d : D} : (upd l k d).length ≤ l.length + 1 := by
  unfold upd; split <;> simp
theorem upd_keys {l : List (Str × D)} {k : Str} {d : D} {P : Str → Prop} (h : ∀ p ∈ l, P p.1) (hk : P k) : ∀ p ∈ upd l k d, P p.1 := by
  unfold upd; intro p hp
  split at hp
  · obtain ⟨q, hq, rfl⟩ := List.mem_map.mp hp
    by_cases e : q.1 = k
    · rw [if_pos e]; exact h q hq
    · rw [if_neg e]; exact h q hq
  · rcases List.mem_append.mp hp with hp | hp
    · exact h p hp
    · rw [List.mem_singleton.mp hp]; exact hk
noncomputable def TupF (I : Fz) (x : Addr) (vs : List Value) : Prop := I x { cls := .type "tuple", data := .seq vs.toArray }
theorem TupF.le {I J : Fz} {x : Addr} {vs : List Value} (t : TupF I x vs) (k : Le I J) : TupF J x vs := k _ _ t
theorem TupF.tup {h₀ h : Heap} {I : Fz} {C : List Cell} {x : Addr} {vs : List Value} (t : TupF I x vs) (S : St h₀ I C h) : h.IsTuple x vs.toArray := ⟨_, S.fz _ _ t, rfl, _, rfl⟩
noncomputable def ListF (I : Fz) (x : Addr) (vs : List Value) : Prop := ∃ o, I x o ∧ ListO vs.toArray o
theorem ListF.le {I J : Fz} {x : Addr} {vs : List Value} (t : ListF I x vs) (k : Le I J) : ListF J x vs := let ⟨o, a, b⟩ := t; ⟨o, k _ _ a, b⟩
theorem ListF.lst {h₀ h : Heap} {I : Fz} {C : List Cell} {x : Addr} {vs : List Value} (t : ListF I x vs) (S : St h₀ I C h) : h.IsList x vs.toArray := let ⟨o, a, b⟩ := t; isList_of (S.fz _ _ a) b
theorem St.frzL {h₀ h : Heap} {I : Fz} {C : List Cell} {x : Addr} {vs : List Value} (S : St h₀ I ((x, PL vs.toArray) :: C) h) : ∃ I', Le I I' ∧ ListF I' x vs ∧ St h₀ I' C h :=
  let ⟨o, a, S'⟩ := S.freeze; ⟨_, Add.le, ⟨o, Add.new, a.lo⟩, S'⟩
noncomputable def PLF (I : Fz) (x : Addr) (vs : List Value) : Prop := ∃ o, I x o ∧ PL vs.toArray o
theorem PLF.le {I J : Fz} {x : Addr} {vs : List Value} (t : PLF I x vs) (k : Le I J) : PLF J x vs := let ⟨o, a, b⟩ := t; ⟨o, k _ _ a, b⟩
theorem PLF.lf {I : Fz} {x : Addr} {vs : List Value} (t : PLF I x vs) : ListF I x vs := let ⟨o, a, b⟩ := t; ⟨o, a, b.lo⟩
theorem St.frzP {h₀ h : Heap} {I : Fz} {C : List Cell} {x : Addr} {vs : List Value} (S : St h₀ I ((x, PL vs.toArray) :: C) h) : ∃ I', Le I I' ∧ PLF I' x vs ∧ St h₀ I' C h :=
  let ⟨o, a, S'⟩ := S.freeze; ⟨_, Add.le, ⟨o, Add.new, a⟩, S'⟩
theorem frzAll {h₀ h : Heap} {C : List Cell} : ∀ (cs : List (Addr × Value)) {I : Fz}, St h₀ I (cs.map (fun p => (p.1, CellO (some p.2))) ++ C) h → ∃ I', Le I I' ∧ (∀ p ∈ cs, CellF I' p.1 p.2) ∧ St h₀ I' C h
  | [], I, S => ⟨I, Le.rfl, by simp, S⟩
  | (a, v) :: r, I, S => by
    obtain ⟨o, ho, S1⟩ := St.freeze (C := r.map (fun p => (p.1, CellO (some p.2))) ++ C) S
    obtain ⟨I', k, f, S2⟩ := frzAll r S1
    refine ⟨I', Add.le.trans k, fun p hp => ?_, S2⟩
    rcases List.mem_cons.mp hp with rfl | hp
    · exact ⟨o, k _ _ Add.new, ho⟩
    · exact f p hp
section
variable {w : World} {A : Around} {E : Value → Shared → Prop} {b : Bs} {h : Heap} {tk : Nat} {K : Frag} {h₀ : Heap} {I : Fz} {C : List Cell} {Q : Value → Shared → Prop} {f c : Addr} {n q : String} {st : Stmt} {dV : Value} {k : Nat}
  {args : List Value} {kw : List (Str × Value)} {binds lo : List (Str × Value)} {cl : Addr → List (Str × Addr)} {cs : Addr → List (Addr × Value)}
/-- a call of a def whose cells are all arguments -/
theorem callF (W : Wd K h₀) (R : Rm A (k + 1)) (S : St h₀ I C h) (hF : FnAt K f n q st dV c) (hbind : ∀ pm, BindsTo (sh b h tk) (fdR n q st dV pm c) ⟨args, kw⟩ binds)
    (hkind : (binds.all fun y => (scoOf st).names.lookup y.1 == some .local || (scoOf st).names.lookup y.1 == some .cell) = true)
    (hnd : ((cellsFrom 0 (scoOf st).names []).map (·.1)).Nodup) (hcl : ∀ L, cellsFrom (L + 1) (scoOf st).names [] = cl L) (hlo : locB (fun x => (scoOf st).names.lookup x) binds = lo)
    (hcs : ∀ L, (cl L).map (fun x => ((x.2, CellO (bindC (fun x => (scoOf st).names.lookup x) binds (fun _ => none) x.1)) : Cell)) = (cs L).map (fun p => (p.1, CellO (some p.2))))
    (hco : (scoOf st).isCoroutine = false) (hgen : (scoOf st).isGenerator = false) (hk : (scoOf st).kind = .function)
    (hq : ∀ A' L I' h₁ tk', Rm A' k → Le I I' → (∀ p ∈ cs L, CellF I' p.1 p.2) → St h₀ I' ((L, Loc lo) :: C) h₁ →
      wpAny (model P0 w) A' (execs (bodOf st) (envP q st L f c (cl L))) (fun fl s' => Q (retOf fl) s') (fun _ _ => False) (sh b h₁ tk')) :
    wpAny (model P0 w) A (call (.ref f) args kw) Q E (sh b h tk) := by
  refine callC W R S hF hbind hkind hnd hco hgen hk fun A' L h₁ tk' R' S' => ?_
  rw [hcl, hlo, hcs] at S'
  have S2 : St h₀ I ((cs L).map (fun p => (p.1, CellO (some p.2))) ++ ((L, Loc lo) :: C)) h₁ := S'.perm (List.perm_middle.symm)
  obtain ⟨I', k', f', S3⟩ := frzAll (cs L) S2
  rw [hcl]
  exact hq A' L I' h₁ tk' R' k' f' S3
theorem tupN {vs : List Value} (S : St h₀ I C h) (hz : vs.length ≤ 100) (q : ∀ x I' h', Le I I' → TupF I' x vs → St h₀ I' C h' → Q (.ref x) (sh b h' tk)) : SeqPost "tuple" Q vs (sh b h tk) :=
  ⟨by rw [sizeLine_eq]; omega, q _ _ _ Add.le Add.new (S.pushFz { cls := .type "tuple", data := .seq vs.toArray })⟩
theorem lstN {vs : List Value} (S : St h₀ I C h) (hz : vs.length ≤ 100) (q : ∀ x I' h', Le I I' → ListF I' x vs → St h₀ I' C h' → Q (.ref x) (sh b h' tk)) : SeqPost "list" Q vs (sh b h tk) :=
  ⟨by rw [sizeLine_eq]; omega, q _ _ _ Add.le ⟨_, Add.new, rfl, _, rfl⟩ (S.pushFz { cls := .type "list", data := .seq vs.toArray })⟩
theorem lstC {vs : List Value} (S : St h₀ I C h) (hz : vs.length ≤ 100) (q : ∀ x h', St h₀ I ((x, ListO vs.toArray) :: C) h' → Q (.ref x) (sh b h' tk)) : SeqPost "list" Q vs (sh b h tk) :=
  ⟨by rw [sizeLine_eq]; omega, q _ _ (S.push (o := { cls := .type "list", data := .seq vs.toArray }) ⟨rfl, _, rfl⟩ rfl)⟩
theorem itemT {value slice : Expr} {x : Addr} {vs : List Value} {i : Int} {u : Tok} {v : Value} (t : TupF I x vs) (S : St h₀ I C h) (h0 : 0 ≤ i) (h1 : i < 1000) (hv : vs[i.toNat]? = some v) (q : Q v (sh b h tk))
    (hs : subscripted slice false (.ref x) (.int i u) = operate [.ref x, .int i u] (getItem (.ref x) (.int i u)) := by with_unfolding_all rfl) :
    wpAny (model P0 w) A (subscriptTail value slice (.ref x) (.int i u)) Q E (sh b h tk) :=
  tail_any (t.tup S).typeIs slot_tuple_getitem.lookup (getItem_tuple (j := i.toNat) (t.tup S) (Int.le_trans (by decide) h0) (Int.lt_trans h1 (by decide)) (by
    have : i.toNat < vs.length := by
      rcases Nat.lt_or_ge i.toNat vs.length with h | h
      · exact h
      · rw [List.getElem?_eq_none h] at hv; cases hv
    unfold seqIndex?; rw [List.size_toArray, if_neg (show ¬ i < 0 by omega), if_pos (by simp; omega)]) (by simpa using hv) q) hs
theorem drawP {a : Addr} {kk m : Int} {tm : Tok} (W : Wd (KK w.params) h₀) (R : Rm A 5) (S : St h₀ I ((a, PenC kk) :: C) h) (hk : kk < 2 ^ 29) (hm : 0 < m) (hm2 : m ≤ 64)
    (q : ∀ d td h' tk', 0 ≤ d → d < m → St h₀ I ((a, PenC (kk + 1)) :: C) h' → Q (.int d td) (sh b h' tk')) :
    wpAny (model P0 w) A (call (.ref 394) [.ref a, .int m tm]) Q E (sh b h tk) := by
  obtain ⟨o, e, n, c, t, u, h1, h2, h3, h4⟩ := S.head
  have S' : St h₀ I ((a, ListO #[.int n t, .int c u]) :: C) h := S.same (fun _ _ _ e => e) ⟨o, e, h4⟩
  refine draw_spec W R S' h1 h2 (by omega) hm hm2 fun d n' t' u' td h' tk' a1 a2 a3 S'' => q d td h' tk' a1 a2 (S''.mono fun o ho => ⟨n', c + 1, t', u', a3, by omega, by omega, ho⟩)
theorem drawN (C1 : List Cell) {a : Addr} {kk m : Int} {tm : Tok} (W : Wd (KK w.params) h₀) (R : Rm A 5) (S : St h₀ I (C1 ++ (a, PenC kk) :: C) h) (hk : kk < 2 ^ 29) (hm : 0 < m) (hm2 : m ≤ 64)
    (q : ∀ d td h' tk', 0 ≤ d → d < m → St h₀ I (C1 ++ (a, PenC (kk + 1)) :: C) h' → Q (.int d td) (sh b h' tk')) :
    wpAny (model P0 w) A (call (.ref 394) [.ref a, .int m tm]) Q E (sh b h tk) :=
  drawP W R (S.perm List.perm_middle) hk hm hm2 fun d td h' tk' a1 a2 S' => q d td h' tk' a1 a2 (S'.perm List.perm_middle.symm)
noncomputable def RangF (I : Fz) (r : Addr) (a : Int) (n : Nat) : Prop := ∃ t u v, I r { cls := .type "range", dict := none, data := .fields #[.int a t, .int (a + n) u, .int 1 v], slots := #[] }
theorem RangF.le {J : Fz} {r : Addr} {a : Int} {n : Nat} (x : RangF I r a n) (k : Le I J) : RangF J r a n := let ⟨t, u, v, e⟩ := x; ⟨t, u, v, k _ _ e⟩
theorem rng1 {n : Nat} {t : Tok} {i : Int} (hi : i = n) (S : St h₀ I C h) (q : ∀ r I' h' tk', Le I I' → RangF I' r 0 n → St h₀ I' C h' → Q (.ref r) (sh b h' tk')) :
    wpAny (model P0 w) A (call (.type "range") [.int i t]) Q E (sh b h tk) := by
  subst hi
  exact call_range_1 (q _ _ _ _ Add.le ⟨tk, t, tk + 1, by rw [Int.zero_add]; exact Add.new⟩ (S.pushFz _))
theorem rng2 {n : Nat} {t u : Tok} {i j : Int} (hj : j = i + n) (S : St h₀ I C h) (q : ∀ r I' h' tk', Le I I' → RangF I' r i n → St h₀ I' C h' → Q (.ref r) (sh b h' tk')) :
    wpAny (model P0 w) A (call (.type "range") [.int i t, .int j u]) Q E (sh b h tk) := by
  subst hj
  exact call_range_2 (q _ _ _ _ Add.le ⟨t, u, tk, Add.new⟩ (S.pushFz _))
theorem itRng {r : Addr} {i : Int} {n : Nat} (S : St h₀ I C h) (x : RangF I r i n) (h0 : 0 ≤ i) (h1 : i ≤ 1000) (h2 : n ≤ 1000)
    (q : ∀ it h' tk' N, Iter w I it n (fun k v => ∃ t, v = .int (i + k) t) N → St h₀ I ((it, N 0) :: C) h' → Q (.ref it) (sh b h' tk')) : wpAny (model P0 w) A (pyIter (.ref r)) Q E (sh b h tk) := by
  obtain ⟨t, u, v, e⟩ := x
  refine itRange (r := r) (t := t) (u := u) (v := v) S (S.fz _ _ e) ?_ q
  have hz : Builtin.Range.rangeSize i (i + n) 1 = n := by unfold Builtin.Range.rangeSize; simp; omega
  unfold Builtin.Range.small
  have fl : ∀ z : Int, 0 ≤ z → z ≤ 3000 → Builtin.Range.rangeFitsLong z = true := fun z a b => by unfold Builtin.Range.rangeFitsLong; simp; omega
  rw [hz, fl i h0 (by omega), fl (i + n) (by omega) (by omega), fl 1 (by omega) (by omega), fl n (by omega) (by omega), if_pos (by decide), fl (i + n + (1 - 1)) (by omega) (by omega)]
  simp
end
end
section -- B0
open PySem PySem.W PyProof.Rows PySem.Calls PySem.Spec
set_option maxRecDepth 100000
set_option linter.unusedVariables false
theorem by_bytes : typeLookup (.type "bytes") "__bytes__" = pure (some (.builtin "bytes.__bytes__")) := by rw [typeLookup_type, builtinLookup_eq_fast]; kernel_rfl
section
variable {w : World} {A : Around} {E : Value → Shared → Prop} {b : Bs} {h : Heap} {tk : Nat} {h₀ : Heap} {I : Fz} {C : List Cell} {Q : Value → Shared → Prop}
theorem bytesOne {x : Addr} {d : Int} {t : Tok} (W : Wd (KK w.params) h₀) (R : Rm A 5) (S : St h₀ I C h) (hl : ListF I x [.int d t]) (h0 : 0 ≤ d) (h1 : d < 256)
    (q : ∀ t' h' tk', St h₀ I C h' → Q (.bytes #[d.toNat.toUInt8] t') (sh b h' tk')) : wpAny (model P0 w) A (call (.type "bytes") [.ref x]) Q E (sh b h tk) :=
  call_bytes_ints (ns := [d]) (hl.lst S) (.cons d t .nil) (by simpa using ⟨h0, h1⟩) (by rw [sizeLine_eq]; simp) R.hd fun h' t' k hk => q t' h' k (S.ext hk)
theorem bytes_new {s : Shared} {o : Array UInt8} {t : Tok} (q : Q (.bytes o t) s) :
    codeAny (model P0 w) A (.call (.builtin "bytes.__new__") ⟨[.type "bytes", .bytes o t], []⟩) (wants Q E) s := by
  refine codeAny_of_tree ?_
  show wpAny _ A.in1 (do checkBuiltinCall "bytes.__new__" ⟨[.type "bytes", .bytes o t], []⟩; again (.builtin "bytes.__new__" ⟨[.type "bytes", .bytes o t], []⟩)) _ _ s
  refine wpAny_bind (wpAny_of_eq (F.bm_newCall _) (wpAny_pure ⟨plainId_quiet F.bm_plain _, codeAny_builtin F.bm_entry ?_⟩))
  rw [Around.under_plainId F.bm_plain _]
  unfold Builtin.«bytes.__new__»
  refine wpAny_bind (wpAny_of_eq (a := true) rfl ?_)
  refine bm_if_false rfl ?_
  refine wpAny_bind (wpAny_of_eq F.bm_sub ?_)
  refine bm_if_false rfl ?_
  refine wpAny_bind (wpAny_of_eq (F.bm_bind _) ?_)
  refine wpAny_bind (wpAny_of_eq (a := ()) rfl ?_)
  refine wpAny_bind (wpAny_of_eq (a := ()) rfl ?_)
  refine bm_if_false rfl ?_
  refine wpAny_bind (wpAny_specialOf (PySem.W.typeIs_bytes _ _ _) by_bytes ?_)
  refine wpAny_bind (wpAny_rule ?_)
  refine wpAny_bind (wpAny_of_eq (a := .type "bytes") rfl ?_)
  refine bm_if_true rfl ?_
  refine wpAny_of_eq (a := .done (.ret (.bytes o t))) rfl q
theorem bytesCopy {o : Array UInt8} {t : Tok} (q : Q (.bytes o t) (sh b h tk)) : wpAny (model P0 w) A (call (.type "bytes") [.bytes o t]) Q E (sh b h tk) := by
  refine callType_codes (Q₁ := fun obj s₁ => s₁.TypeIs obj "bytes" ∧ Q obj s₁) F.bm_called (F.bm_typeCall _) F.entry_object_init
    (bytes_new ⟨PySem.W.typeIs_bytes _ _ _, q⟩) fun obj s₁ h₁ => ?_
  exact ⟨h₁.1, F.args_object_init_2 obj _, object_init_meets F.bm_called.init.lookup F.bm_called.made (by decide) P0 w A.in1 _ s₁ ⟨h₁.1, rfl, h₁.2⟩⟩
end
end
section -- I1
open PySem PySem.W PyProof.Rows PySem.Calls PySem.Spec
set_option maxRecDepth 100000
set_option linter.unusedVariables false
noncomputable def TyOk (K : Frag) : Value → Prop | .type _ => True | .ref C => (clsIn K C).isSome = true | _ => False
section
variable {prog : Program} {w : World} {A : Around} {E : Value → Shared → Prop} {s : Shared} {K : Frag} {h₀ h : Heap} {I : Fz} {C : List Cell} {x Cl : Addr} {l : List (Str × Value)} {v t cls : Value} {P : Heap → Prop} {b : Bs} {tk : Nat}
theorem isT_nested {dep : Int} {tk : Tok} {Q : Fin → Shared → Prop} {M : Model} (ht : Looks M s.heap (typeOf v) t) (q : Q (.done (.ret (.bool true))) s) : wpAny M A (Builtin.«isinstance.nested» ⟨[v, t, .int dep tk], []⟩) Q E s := by
  obtain ⟨hh, g, d, tt, os⟩ := s
  unfold Builtin.«isinstance.nested»
  refine wpAny_bind (ht.at ?_)
  rw [if_pos (beq_self_eq_true t)]
  exact wpAny_bind (wpAny_rule (wpAny_bind (wpAny_pure (wpAny_pure q))))
theorem isT {Q : Value → Shared → Prop} (ht : ∀ M, Looks M s.heap (typeOf v) t) (hx : v ≠ .builtin "__main__.__loader__#opaque") (q : Q (.bool true) s) : wpAny (model prog w) A (call (.builtin "isinstance") [v, t]) Q E s :=
  call_isinstance (S := fun _ R s => (∀ M, Looks M s.heap (typeOf v) t) ∧ R (.ok (.ret (.bool true))) s) (fun _ _ _ _ _ hs => isinstance_outer (isT_nested (hs.1 _) hs.2) hx) ⟨ht, q⟩
theorem looks_isType {K : Frag} {M : Model} {h : Heap} (X : K.In h) (e : TyOk K cls) : Looks M h (isType cls) true := by
  cases cls <;> first | exact e.elim | skip
  · exact .now
  · rename_i C
    unfold TyOk clsIn at e
    dsimp only at e
    intro A Q E s k q
    obtain ⟨hh, g, d, tt, os⟩ := s
    split at e
    · rename_i ho
      unfold isType
      exact nd_load (k _ _ (X _ _ ho)) (nd_pure (q))
    · cases e
theorem isF_nested {dep : Int} {tk : Tok} {Q : Fin → Shared → Prop} (ht : Looks (model prog w) s.heap (typeOf v) t) (hne : (t == cls) = false) (h1 : Looks (model prog w) s.heap (typeOf cls) (.type "type")) (h2 : Looks (model prog w) s.heap (isType cls) true)
    (h3 : Looks (model prog w) s.heap (isSubtype t cls) false) (h4 : Looks (model prog w) s.heap (isType t) true) (p : P s.heap)
    (ca : ∀ {prog : Program} {w : World} {A : Around} {E : Value → Shared → Prop} {Q : Option Value → Shared → Prop} {s : Shared}, P s.heap → Q (some t) { s with toks := s.toks + 1 } → wpAny (model prog w) A (getAttr? v "__class__") Q E s)
    (q : Q (.done (.ret (.bool false))) { s with toks := s.toks + 1 }) :
    wpAny (model prog w) A (Builtin.«isinstance.nested» ⟨[v, cls, .int dep tk], []⟩) Q E s := by
  obtain ⟨hh, g, d, tt, os⟩ := s
  unfold Builtin.«isinstance.nested»
  refine wpAny_bind (ht.at ?_)
  rw [if_neg (by rw [hne]; exact Bool.false_ne_true)]
  have L3 : Looks (model prog w) hh (isInstance v cls) false := ht.andThen h3
  refine wpAny_bind (h1.at ?_)
  rw [if_pos (by decide)]
  k_delta "plainIsInstance"
  refine wpAny_bind (wpAny_bind (h2.at ?_))
  simp only [Bool.not_true, Bool.false_eq_true, if_false]
  refine wpAny_bind (L3.at ?_)
  simp only [Bool.false_eq_true, if_false]
  refine wpAny_bind (ca p ?_)
  refine wpAny_bind (h4.at ?_)
  simp only [Bool.not_true, Bool.false_eq_true, if_false]
  refine wpAny_bind (wpAny_rule ?_)
  exact h3.at (wpAny_pure q)
theorem isF {Q : Value → Shared → Prop} (X : K.In s.heap) (ht : ∀ M, Looks M s.heap (typeOf v) t) (hne : (t == cls) = false) (h1 : ∀ M, Looks M s.heap (typeOf cls) (.type "type")) (h2 : TyOk K cls)
    (h3 : subIn K t cls = some false) (h4 : TyOk K t) (hx : v ≠ .builtin "__main__.__loader__#opaque") (p : P s.heap)
    (ca : ∀ {prog : Program} {w : World} {A : Around} {E : Value → Shared → Prop} {Q : Option Value → Shared → Prop} {s : Shared}, P s.heap → Q (some t) { s with toks := s.toks + 1 } → wpAny (model prog w) A (getAttr? v "__class__") Q E s)
    (q : Q (.bool false) { s with toks := s.toks + 1 }) : wpAny (model prog w) A (call (.builtin "isinstance") [v, cls]) Q E s :=
  call_isinstance (S := fun _ R s => (K.In s.heap ∧ (∀ M, Looks M s.heap (typeOf v) t) ∧ (∀ M, Looks M s.heap (typeOf cls) (.type "type")) ∧ P s.heap) ∧ R (.ok (.ret (.bool false))) { s with toks := s.toks + 1 })
    (fun _ _ _ _ _ hs => isinstance_outer (isF_nested (hs.1.2.1 _) hne (hs.1.2.2.1 _) (looks_isType hs.1.1 h2) (looks_subIn hs.1.1 h3) (looks_isType hs.1.1 h4) hs.1.2.2.2 ca hs.2) hx) ⟨⟨X, ht, h1, p⟩, q⟩
/-- the class of an object of a class of the program -/
theorem inst_cls {Q : Option Value → Shared → Prop} (X : K.In s.heap) (i : InstH s.heap x Cl l) (hg : plainGet K Cl "__class__" = true) (hh : hasDictIn K Cl = true)
    (ha : findIn K (.ref Cl) "__class__" = some (some (.builtin "object.__class__"))) (hn : specialIn K (.builtin "object.__class__") "__get__" = some (some (.builtin "getset_descriptor.__get__"))) (ht : takesIn K (.builtin "object.__class__") = some true)
    (hm : mroIn K Cl (.type "object") = some true) (q : Q (some (.ref Cl)) { s with toks := s.toks + 1 }) : wpAny (model prog w) A (getAttr? (.ref x) "__class__") Q E s := by
  obtain ⟨dx, o, I, _, _⟩ := i.inst
  have hga := (plainGet_of hg).1
  have hk := (plainGet_of hg).2
  have hf := findObj_data (K := K) (C := Cl) (od := o) (by obtain ⟨cd, hc, _⟩ := any_some hh; rw [hc]; rfl) ha hn ht
  unfold getAttr? getAttrBy?
  refine wpAny_bind (wpAny_mkText (wpAny_bind (wpAny_attempt ?_)))
  unfold getAttrBy
  refine wpAny_holding ?_
  have L0 := I.type (M := model prog w)
  have L1 := looks_findIn (M := model prog w) X hga
  have L2 := looks_find (M := model prog w) X I hf
  have L3 := looks_findIn (M := model prog w) X hk
  obtain ⟨hh', gg, d, tt, os⟩ := s
  refine wpAny_bind (L0.at (wpAny_bind (L1.at ?_)))
  show wpAny _ _ (getAttrEveryday _ _ _) _ _ _
  refine wpAny_bind (wpAny_onRaise (wpAny_runValue (codeAny_builtin F.plainObj_entry_getattr_hooked ?_)))
  refine wpAny_bind (wpAny_pure (wpAny_bind (L0.at (wpAny_bind (L2.at (wpAny_bind (L3.at ?_)))))))
  show wpAny _ _ (holding [.builtin "object.__class__"] (call (.builtin "getset_descriptor.__get__") [.builtin "object.__class__", .ref x, .ref Cl]) >>= ret) _ _ _
  refine wpAny_bind (wpAny_holding (wpAny_call (class_get (ox := instObj Cl dx) (od := some o) X I hm ?_)))
  refine wpAny_pure ?_
  show wpAny _ _ (handedOut (.ref Cl)) _ _ _
  rw [handedOut_of rfl]
  exact wpAny_pure (wpAny_pure q)
end
-- the kinds of values
section
variable {w : World} {A : Around} {E : Value → Shared → Prop} {b : Bs} {h : Heap} {tk : Nat} {h₀ : Heap} {I : Fz} {C : List Cell} {Q : Value → Shared → Prop} {x Cl Cx : Addr} {l : List (Str × Value)} {T : String}
noncomputable def TyT (cls : Value) : Prop := ∀ {h : Heap} {M : Model} {P : Params}, (KK P).In h → Looks M h (typeOf cls) (.type "type")
theorem tyT_type {T : String} (e : typeOf (.type T) = pure (.type "type")) : TyT (.type T) := fun _ => Looks.of_pure e
theorem tyT_ref {C : Addr} (e : ∀ P, typeIn (KK P) (.ref C) = some (.type "type")) : TyT (.ref C) := fun X => looks_typeIn X (e _)
theorem ii_inst_T (W : Wd (KK w.params) h₀) (S : St h₀ I C h) (i : InstH h x Cl l) (q : Q (.bool true) (sh b h tk)) : wpAny (model P0 w) A (call (.builtin "isinstance") [.ref x, .ref Cl]) Q E (sh b h tk) :=
  isT (s := sh b h tk) (fun M => let ⟨_, _, J, _, _⟩ := i.inst; J.type) (by simp) q
theorem ii_inst_F {cls : Value} (W : Wd (KK w.params) h₀) (S : St h₀ I C h) (i : InstH h x Cl l) (hcl : TyT cls) (hok : TyOk (KK w.params) cls) (hne : (Value.ref Cl == cls) = false) (hs : subIn (KK w.params) (.ref Cl) cls = some false)
    (f1 : plainGet (KK w.params) Cl "__class__" = true) (f2 : hasDictIn (KK w.params) Cl = true) (f3 : findIn (KK w.params) (.ref Cl) "__class__" = some (some (.builtin "object.__class__")))
    (f6 : mroIn (KK w.params) Cl (.type "object") = some true) (f7 : TyOk (KK w.params) (.ref Cl)) (q : ∀ tk', Q (.bool false) (sh b h tk')) : wpAny (model P0 w) A (call (.builtin "isinstance") [.ref x, cls]) Q E (sh b h tk) :=
  isF (s := sh b h tk) (P := fun h' => (KK w.params).In h' ∧ InstH h' x Cl l) (S.Kin W) (fun M => let ⟨_, _, J, _, _⟩ := i.inst; J.type) hne (fun M => hcl (S.Kin W)) hok hs f7 (by simp) ⟨S.Kin W, i⟩
    (fun p q => inst_cls p.1 p.2 f1 f2 f3 (by kernel_rfl) (by kernel_rfl) f6 q) (q _)
theorem ii_val_T {v : Value} (ht : typeOf v = pure (.type T)) (hv : ∀ i, v ≠ .builtin i) (q : Q (.bool true) (sh b h tk)) : wpAny (model P0 w) A (call (.builtin "isinstance") [v, .type T]) Q E (sh b h tk) :=
  isT (s := sh b h tk) (fun M => Looks.of_pure ht) (hv _) q
theorem ii_heap_T {o : Obj} (S : St h₀ I C h) (ho : h.get? x = some o) (hc : o.cls = .type T) (q : Q (.bool true) (sh b h tk)) : wpAny (model P0 w) A (call (.builtin "isinstance") [.ref x, .type T]) Q E (sh b h tk) :=
  isT (s := sh b h tk) (fun M => hc ▸ (Looks.ld ho).andThen .now) (by simp) q
theorem ii_int_F {cls : Value} {n : Int} {u : Tok} (W : Wd (KK w.params) h₀) (S : St h₀ I C h) (hcl : TyT cls) (hok : TyOk (KK w.params) cls) (hne : (Value.type "int" == cls) = false) (hs : subIn (KK w.params) (.type "int") cls = some false)
    (q : ∀ tk', Q (.bool false) (sh b h tk')) : wpAny (model P0 w) A (call (.builtin "isinstance") [.int n u, cls]) Q E (sh b h tk) :=
  isF (s := sh b h tk) (P := fun _ => True) (S.Kin W) (fun M => .of_pure rfl) hne (fun M => hcl (S.Kin W)) hok hs trivial (by simp) trivial (fun p q => int_cls p q) (q _)
theorem ii_list_F {cls : Value} {o : Obj} (W : Wd (KK w.params) h₀) (S : St h₀ I C h) (ho : h.get? x = some o) (hc : o.cls = .type "list") (hcl : TyT cls) (hok : TyOk (KK w.params) cls) (hne : (Value.type "list" == cls) = false) (hs : subIn (KK w.params) (.type "list") cls = some false)
    (q : ∀ tk', Q (.bool false) (sh b h tk')) : wpAny (model P0 w) A (call (.builtin "isinstance") [.ref x, cls]) Q E (sh b h tk) :=
  isF (s := sh b h tk) (P := fun h' => ∃ o, h'.get? x = some o ∧ o.cls = .type "list") (S.Kin W) (fun M => hc ▸ (Looks.ld ho).andThen .now) hne (fun M => hcl (S.Kin W)) hok hs trivial (by simp) ⟨o, ho, hc⟩ (fun p q => list_cls p q) (q _)
theorem ii_dict_F {cls : Value} {o : Obj} (W : Wd (KK w.params) h₀) (S : St h₀ I C h) (ho : h.get? x = some o) (hc : o.cls = .type "dict") (hcl : TyT cls) (hok : TyOk (KK w.params) cls) (hne : (Value.type "dict" == cls) = false) (hs : subIn (KK w.params) (.type "dict") cls = some false)
    (q : ∀ tk', Q (.bool false) (sh b h tk')) : wpAny (model P0 w) A (call (.builtin "isinstance") [.ref x, cls]) Q E (sh b h tk) :=
  isF (s := sh b h tk) (P := fun h' => ∃ o, h'.get? x = some o ∧ o.cls = .type "dict") (S.Kin W) (fun M => hc ▸ (Looks.ld ho).andThen .now) hne (fun M => hcl (S.Kin W)) hok hs trivial (by simp) ⟨o, ho, hc⟩ (fun p q => dict_cls p q) (q _)
end
end
section -- V1
open PySem PySem.W PyProof.Rows PySem.Calls PySem.Spec
set_option maxRecDepth 100000
set_option maxHeartbeats 1000000
section
variable {w : World} {A : Around} {E : Value → Shared → Prop} {b : Bs} {h : Heap} {tk : Nat} {h₀ : Heap} {I : Fz} {C : List Cell} {Q : Value → Shared → Prop} {a : Addr}
theorem small_fdiv {d : Int} (a : 0 ≤ d) (b : d < 100) : smallI (d.fdiv 5) := by
  rw [Int.fdiv_eq_ediv_of_nonneg _ (by decide)]; constructor <;> omega
theorem ifD {p : Prop} [Decidable p] {X Y : Prop} (a : p → X) (b : ¬p → Y) : if decide p = true then X else Y := by
  by_cases h : p
  · rw [if_pos (decide_eq_true h)]; exact a h
  · rw [if_neg (by simpa using h)]; exact b h
theorem ifB {p : Bool} {X Y : Prop} (a : p = true → X) (b : p = false → Y) : if p = true then X else Y := by
  cases p
  · rw [if_neg Bool.false_ne_true]; exact b rfl
  · rw [if_pos rfl]; exact a rfl
theorem pick2 {I : Fz} {x : Addr} {s1 s2 : Str} {t1 t2 : Tok} {d : Int} {l : List Str} (it : TupF I x [.str s1 t1, .str s2 t2]) (h1 : s1 ∈ l) (h2 : s2 ∈ l) (a : 0 ≤ d) (b : d < 2) : ∃ s ts, [Value.str s1 t1, Value.str s2 t2][d.toNat]? = some (.str s ts) ∧ s ∈ l := by
  rcases (show d = 0 ∨ d = 1 by omega) with rfl | rfl
  · exact ⟨_, _, rfl, h1⟩
  · exact ⟨_, _, rfl, h2⟩
theorem pick3 {I : Fz} {x : Addr} {s1 s2 s3 : Str} {t1 t2 t3 : Tok} {d : Int} {l : List Str} (it : TupF I x [.str s1 t1, .str s2 t2, .str s3 t3]) (h1 : s1 ∈ l) (h2 : s2 ∈ l) (h3 : s3 ∈ l) (a : 0 ≤ d) (b : d < 3) : ∃ s ts, [Value.str s1 t1, Value.str s2 t2, Value.str s3 t3][d.toNat]? = some (.str s ts) ∧ s ∈ l := by
  rcases (show d = 0 ∨ d = 1 ∨ d = 2 by omega) with rfl | rfl | rfl
  · exact ⟨_, _, rfl, h1⟩
  · exact ⟨_, _, rfl, h2⟩
  · exact ⟨_, _, rfl, h3⟩
noncomputable def cost : Nat → Int | 0 => 3 | n + 1 => 2 + 3 * (1 + cost n) + 1
theorem cost_pos : ∀ n, 3 ≤ cost n
  | 0 => by simp [cost]
  | n + 1 => by have := cost_pos n; simp only [cost]; omega
noncomputable def VSpec (w : World) (h₀ : Heap) (a : Addr) (deep : Nat) : Prop := ∀ {A : Around} {E : Value → Shared → Prop} {b : Bs} {h : Heap} {tk : Nat} {I : Fz} {C : List Cell} {Q : Value → Shared → Prop} {td : Tok} {k : Int} (W : Wd (KK w.params) h₀) (R : Rm A (10 * deep + 10)) (S : St h₀ I ((a, PenC k) :: C) h) (hk : k + cost deep < 2 ^ 29)
    (q1 : ∀ v d I' h' tk', Le I I' → IsD w I' (2 * deep + 1) d v → (∀ l, d ≠ .dict l) → St h₀ I' ((a, PenC (k + cost deep)) :: C) h' → Q v (sh b h' tk'))
    (q2 : ∀ x I' h' tk', Le I I' → St h₀ I' ((x, TopC w I' (2 * deep) x) :: (a, PenC (k + cost deep)) :: C) h' → Q (.ref x) (sh b h' tk')),
    wpAny (model P0 w) A (call (.ref 399) [.ref a, .int deep td]) Q E (sh b h tk)
theorem VSpec.frz {w : World} {h₀ : Heap} {a : Addr} {deep : Nat} (V : VSpec w h₀ a deep) {A : Around} {E : Value → Shared → Prop} {b : Bs} {h : Heap} {tk : Nat} {I : Fz} {C : List Cell} {Q : Value → Shared → Prop} {td : Tok} {k : Int} (C1 : List Cell) (W : Wd (KK w.params) h₀) (R : Rm A (10 * deep + 10)) (S : St h₀ I (C1 ++ (a, PenC k) :: C) h) (hk : k + cost deep < 2 ^ 29)
    (q : ∀ v d I' h' tk', Le I I' → IsD w I' (2 * deep + 1) d v → St h₀ I' (C1 ++ (a, PenC (k + cost deep)) :: C) h' → Q v (sh b h' tk')) :
    wpAny (model P0 w) A (call (.ref 399) [.ref a, .int deep td]) Q E (sh b h tk) :=
  V W R (S.perm List.perm_middle) hk (fun v d I' h' tk' k1 hd _ S' => q v d I' h' tk' k1 hd (S'.perm List.perm_middle.symm)) fun x I' h' tk' k1 S' =>
    let ⟨I3, l, k5, hd, S9⟩ := S'.frzTop; q _ _ I3 h' tk' (k1.trans k5) hd (S9.perm List.perm_middle.symm)
theorem value_spec (deep : Nat) : VSpec w h₀ a deep := by
  induction deep with
  | zero =>
    intro A E b h tk I C Q td k W R S hk q1 q2
    have hk' : k + 3 < 2 ^ 29 := hk
    refine callF (binds := [(Str.ofString "pen", .ref a), (Str.ofString "deep", .int ((0 : Nat) : Int) td)]) (lo := []) (cl := fun L => [(Str.ofString "deep", L + 2), (Str.ofString "pen", L + 1)]) (cs := fun L => [(L + 2, .int ((0 : Nat) : Int) td), (L + 1, .ref a)])
      W R S (f_law_value w.params) (fun pm => BindsTo.of_eq (by kernel_rfl)) (by kernel_rfl) (by decide +kernel) (fun L => by kernel_rfl) (by kernel_rfl) (fun L => by kernel_rfl) rfl rfl rfl fun A' L I1 h1 tk1 R' k1 hcs S1 => ?_
    have c1 : CellF I1 (L + 2) _ := hcs (L + 2, .int ((0 : Nat) : Int) td) (by simp)
    have c2 : CellF I1 (L + 1) _ := hcs (L + 1, .ref a) (by simp)
    clear hcs
    dsimp only at c1 c2
    refine wpAny_execs_cons ?_
    walk_at "g"
    rw [decide_eq_false (show ¬ ((0 : Nat) : Int) > 0 by omega), if_neg Bool.false_ne_true]
    walk_at "g"
    walk_at "k"
    refine drawN [_] W (R'.less (by omega)) S1 (by omega) (by decide) (by decide) fun way tw h2 tk2 w0 w1 S2 => ?_
    walk_at "s"; intro h3 tk3 S3; clear S1 S2
    walk_at "g"
    refine ifD (fun hw => ?_) (fun hw => ?_)
    · walk_at "g"
      walk_at "k"
      refine drawN [_] W (R'.less (by omega)) S3 (by omega) (by decide) (by decide) fun d1 t1 h4 tk4 d10 d11 S4 => ?_
      clear S3
      walk_at "g"
      walk_at "k"
      refine drawN [_] W (R'.less (by omega)) S4 (by omega) (by decide) (by decide) fun d2 t2 h5 tk5 d20 d21 S5 => ?_
      clear S4
      walk_at "g"
      refine divI (by decide) (by decide) fun t3 tk6 => ?_
      walk_at "g"
      walk_at "k"
      refine newRef W (R'.less (by omega)) S5 fun x I2 h6 tk7 k2 ix S6 => ?_
      walk_at "g"
      exact q1 _ (.ref _ _) I2 h6 tk7 (k1.trans k2) ⟨x, _, _, rfl, ix, by constructor <;> omega, small_fdiv d20 (by omega)⟩ (by simp) (S6.tail.mono fun o ho => ho.up (by simp only [cost]; omega))
    · walk_at "g"
      refine ifB (fun hw3 => ?_) (fun hw3 => ?_)
      · walk_at "g"
        walk_at "k"
        refine drawN [_] W (R'.less (by omega)) S3 (by omega) (by decide) (by decide) fun d1 t1 h4 tk4 d10 d11 S4 => ?_
        walk_at "g"
        exact q1 _ (.int _) I1 h4 tk4 k1 ⟨_, rfl, by constructor <;> omega⟩ (by simp) (S4.tail.mono fun o ho => ho.up (by simp only [cost]; omega))
      · walk_at "g"
        refine ifB (fun hw4 => ?_) (fun hw4 => ?_)
        · walk_at "g"
          refine tupN S3 (by simp) fun xt I2 h4 k2 it S4 => ?_
          clear S3
          replace c1 := c1.le k2; replace c2 := c2.le k2
          walk_at "g"
          walk_at "k"
          refine drawN [_] W (R'.less (by omega)) S4 (by omega) (by decide) (by decide) fun d1 t1 h5 tk5 d10 d11 S5 => ?_
          clear S4
          obtain ⟨s, ts, hs, hok⟩ := pick2 (l := okNames) it (by simp [okNames]) (by simp [okNames]) d10 d11
          refine itemT it S5 d10 (by omega) hs ?_
          walk_at "g"
          walk_at "k"
          refine newName W (R'.less (by omega)) S5 fun x I3 h6 tk7 k3 ix S6 => ?_
          walk_at "g"
          exact q1 _ (.name _) I3 h6 tk7 (k1.trans (k2.trans k3)) ⟨x, _, rfl, ix, hok⟩ (by simp) (S6.tail.mono fun o ho => ho.up (by simp only [cost]; omega))
        · exfalso
          have h3 : way ≠ 3 := by simpa using hw3
          have h4 : way ≠ 4 := by simpa using hw4
          omega
  | succ deep ih =>
    intro A E b h tk I C Q td k W R S hk q1 q2
    have hc := cost_pos deep
    have hk' : k + (2 + 3 * (1 + cost deep) + 1) < 2 ^ 29 := hk
    refine callF (binds := [(Str.ofString "pen", .ref a), (Str.ofString "deep", .int ((deep + 1 : Nat) : Int) td)]) (lo := []) (cl := fun L => [(Str.ofString "deep", L + 2), (Str.ofString "pen", L + 1)]) (cs := fun L => [(L + 2, .int ((deep + 1 : Nat) : Int) td), (L + 1, .ref a)])
      W R S (f_law_value w.params) (fun pm => BindsTo.of_eq (by kernel_rfl)) (by kernel_rfl) (by decide +kernel) (fun L => by kernel_rfl) (by kernel_rfl) (fun L => by kernel_rfl) rfl rfl rfl fun A' L I1 h1 tk1 R' k1 hcs S1 => ?_
    have c1 : CellF I1 (L + 2) _ := hcs (L + 2, .int ((deep + 1 : Nat) : Int) td) (by simp)
    have c2 : CellF I1 (L + 1) _ := hcs (L + 1, .ref a) (by simp)
    clear hcs
    dsimp only at c1 c2
    refine wpAny_execs_cons ?_
    walk_at "g"
    rw [decide_eq_true (show ((deep + 1 : Nat) : Int) > 0 by omega), if_pos rfl]
    walk_at "g"
    walk_at "k"
    refine drawN [_] W (R'.less (by omega)) S1 (by omega) (by decide) (by decide) fun way tw h2 tk2 w0 w1 S2 => ?_
    walk_at "s"; intro h3 tk3 S3; clear S1 S2
    walk_at "g"
    refine ifD (fun hw => ?_) (fun hw => ?_)
    · walk_at "g"
      walk_at "k"
      refine drawN [_] W (R'.less (by omega)) S3 (by omega) (by decide) (by decide) fun d1 t1 h4 tk4 d10 d11 S4 => ?_
      clear S3
      walk_at "g"
      walk_at "k"
      refine drawN [_] W (R'.less (by omega)) S4 (by omega) (by decide) (by decide) fun d2 t2 h5 tk5 d20 d21 S5 => ?_
      clear S4
      walk_at "g"
      refine divI (by decide) (by decide) fun t3 tk6 => ?_
      walk_at "g"
      walk_at "k"
      refine newRef W (R'.less (by omega)) S5 fun x I2 h6 tk7 k2 ix S6 => ?_
      walk_at "g"
      exact q1 _ (.ref _ _) I2 h6 tk7 (k1.trans k2) ⟨x, _, _, rfl, ix, by constructor <;> omega, small_fdiv d20 (by omega)⟩ (by simp) (S6.tail.mono fun o ho => ho.up (by simp only [cost]; omega))
    · walk_at "g"
      refine ifB (fun hw3 => ?_) (fun hw3 => ?_)
      · walk_at "g"
        walk_at "k"
        refine drawN [_] W (R'.less (by omega)) S3 (by omega) (by decide) (by decide) fun d1 t1 h4 tk4 d10 d11 S4 => ?_
        walk_at "g"
        exact q1 _ (.int _) I1 h4 tk4 k1 ⟨_, rfl, by constructor <;> omega⟩ (by simp) (S4.tail.mono fun o ho => ho.up (by simp only [cost]; omega))
      · walk_at "g"
        refine ifB (fun hw4 => ?_) (fun hw4 => ?_)
        · walk_at "g"
          refine tupN S3 (by simp) fun xt I2 h4 k2 it S4 => ?_
          clear S3
          replace c1 := c1.le k2; replace c2 := c2.le k2
          walk_at "g"
          walk_at "k"
          refine drawN [_] W (R'.less (by omega)) S4 (by omega) (by decide) (by decide) fun d1 t1 h5 tk5 d10 d11 S5 => ?_
          clear S4
          obtain ⟨s, ts, hs, hok⟩ := pick2 (l := okNames) it (by simp [okNames]) (by simp [okNames]) d10 d11
          refine itemT it S5 d10 (by omega) hs ?_
          walk_at "g"
          walk_at "k"
          refine newName W (R'.less (by omega)) S5 fun x I3 h6 tk7 k3 ix S6 => ?_
          walk_at "g"
          exact q1 _ (.name _) I3 h6 tk7 (k1.trans (k2.trans k3)) ⟨x, _, rfl, ix, hok⟩ (by simp) (S6.tail.mono fun o ho => ho.up (by simp only [cost]; omega))
        · walk_at "g"
          refine ifB (fun hw5 => ?_) (fun hw5 => ?_)
          · walk_at "g"
            refine compF (h₀ := h₀) (cl := [(Str.ofString "pen", L + 1), (Str.ofString "deep", L + 2)]) R'.hd (by kernel_rfl) (by kernel_rfl) rfl (by kernel_rfl) (by kernel_rfl) fun HP hHP => ?_
            walk_at "g"
            walk_at "k"
            refine drawN [_] W (R'.less (by omega)) S3 (by omega) (by decide) (by decide) fun d1 t1 h4 tk4 d10 d11 S4 => ?_
            clear S3
            walk_at "g"
            obtain ⟨nn, rfl⟩ := Int.eq_ofNat_of_zero_le d10
            refine rng1 rfl S4 fun r I2 h5 tk5 k2 ir S5 => ?_
            clear S4
            replace c1 := c1.le k2; replace c2 := c2.le k2
            refine itRng S5 ir (by decide) (by decide) (by omega) fun it h6 tk6 N HI S6 => ?_
            clear S5
            refine hHP ⟨it, I2, I2, nn, _, N, h6, tk6, _, b, fun i I' ys C' => ∃ ds, i ≤ nn ∧ ds.length = i ∧ All2 (IsD w I' (2 * deep + 1)) ds ys ∧ C' = (L, Loc [(Str.ofString "way", .int way tw)]) :: (a, PenC (k + 1 + 1 + i * cost deep)) :: C, rfl, rfl, HI, by omega, Le.rfl, S6, ⟨[], Nat.zero_le _, rfl, .nil, congrArg (fun z => (L, Loc [(Str.ofString "way", Value.int way tw)]) :: (a, PenC z) :: C) (by simp)⟩, ?_, ?_⟩
            · rintro i I' ys C' Lc acc h tk v hi ⟨ds, hin, hds, hal, rfl⟩ k3 ⟨tv, rfl⟩ S7 Nx hNx
              refine wpAny_tests_nil ?_
              rw [if_pos rfl]
              replace c1 := c1.le k3; replace c2 := c2.le k3
              walk_at "g"
              walk_at "k"
              have hb : k + 1 + 1 + i * cost deep + cost deep < 2 ^ 29 := by
                have : (i : Int) * cost deep ≤ 2 * cost deep := Int.mul_le_mul_of_nonneg_right (by omega) (by omega)
                omega
              rw [show ((deep + 1 : Nat) : Int) - 1 = (deep : Int) by omega]
              refine VSpec.frz ih [_, _, _, _] W (R'.less (by omega)) S7 hb fun v d I'' h' tk' k4 hd S8 => ?_
              refine hNx ⟨I'', _, h', tk', rfl, k4, ⟨ds ++ [d], hi, by simp [hds], All2.snoc (hal.imp fun _ _ y => y.le k4) hd, rfl⟩, ?_⟩
              have e : k + 1 + 1 + ((i + 1 : Nat) : Int) * cost deep = k + 1 + 1 + i * cost deep + cost deep := by push_cast; rw [Int.add_mul, Int.one_mul]; omega
              rw [e]
              exact S8
            · rintro I' ys C' acc h tk ⟨ds, hin, hds, hal, rfl⟩ k3 S7
              obtain ⟨I3, k4, hl, S8⟩ := S7.frzL
              have hb : (nn : Int) * cost deep ≤ 2 * cost deep := Int.mul_le_mul_of_nonneg_right (by omega) (by omega)
              exact q1 _ (.arr ds) I3 h tk (k1.trans (k2.trans (k3.trans k4))) ⟨acc, ys, _, rfl, hl.choose_spec.1, hl.choose_spec.2, hal.imp fun _ _ y => (y.le k4).to (by omega), by omega⟩ (by simp) (S8.tail.mono fun o ho => ho.up (by simp only [cost]; omega))
          · walk_at "g"
            refine dNew (sK w) W S3 fun hd h4 S4 => ?_
            replace S4 := S4.swap
            clear S3
            walk_at "s"; intro h5 tk5 S5; clear S4
            walk_at "g"
            refine wpAny_For ?_
            walk_at "g"
            walk_at "k"
            refine drawN [_, _] W (R'.less (by omega)) S5 (by omega) (by decide) (by decide) fun d1 t1 h6 tk6 d10 d11 S6 => ?_
            clear S5
            walk_at "g"
            obtain ⟨nn, rfl⟩ := Int.eq_ofNat_of_zero_le d10
            refine rng1 rfl S6 fun r I2 h7 tk7 k2 ir S7 => ?_
            clear S6
            replace c1 := c1.le k2; replace c2 := c2.le k2
            refine itRng S7 ir (by decide) (by decide) (by omega) fun it h8 tk8 N HI S8 => ?_
            clear S7
            refine forF HI R'.hd (fun i I' l' C' => ∃ l kvs, l.length ≤ i ∧ Rows w I' (2 * deep + 1) l kvs ∧ (∀ p ∈ l, p.1 ∈ valKeys) ∧ l' = [(Str.ofString "head", .ref hd), (Str.ofString "way", .int way tw)] ∧
              C' = (hd, DicC (sK w) hd kvs) :: (a, PenC (k + 1 + 1 + i * (1 + cost deep))) :: C) S8.swap Le.rfl ⟨[], [], Nat.zero_le _, .nil, by simp, rfl, congrArg (fun z => (hd, DicC (sK w) hd []) :: (a, PenC z) :: C) (by simp)⟩ ?_ ?_
            · rintro i I' l' C' h tk v hi ⟨l, kvs, hll, hr, hok, rfl, rfl⟩ k3 ⟨tv, rfl⟩ S9 Nx hNx
              replace c1 := c1.le k3; replace c2 := c2.le k3
              have hb : k + 1 + 1 + i * (1 + cost deep) + cost deep < 2 ^ 29 := by
                have : (i : Int) * (1 + cost deep) ≤ 2 * (1 + cost deep) := Int.mul_le_mul_of_nonneg_right (by omega) (by omega)
                omega
              refine wpAny_assign_Name ?_
              walk_at "s"; intro h10 tk10 S10; clear S9
              replace S10 := S10.mono (fun o ho => Loc.drop ho (by exact rfl))
              refine wpAny_execs_cons ?_
              walk_at "g"
              walk_at "k"
              rw [show ((deep + 1 : Nat) : Int) - 1 = (deep : Int) by omega]
              refine VSpec.frz ih [_, _, _] W (R'.less (by omega)) S10 hb fun v d I3 h11 tk11 k4 hd' S11 => ?_
              clear S10
              replace c1 := c1.le k4; replace c2 := c2.le k4
              walk_at "g"
              refine tupN S11 (by simp) fun xt I4 h12 k5 it2 S12 => ?_
              clear S11
              replace c1 := c1.le k5; replace c2 := c2.le k5
              walk_at "g"
              walk_at "k"
              refine drawN [_, _, _] W (R'.less (by omega)) S12 (by omega) (by decide) (by decide) fun d1 t1 h13 tk13 d10 d11 S13 => ?_
              clear S12
              obtain ⟨s, ts, hs, hok2⟩ := pick3 (l := valKeys) it2 (by simp [valKeys]) (by simp [valKeys]) (by simp [valKeys]) d10 d11
              refine itemT it2 S13 d10 (by omega) hs ?_
              refine dSet (k := s) (DicH.ofC S13.tail.tail.head) (by simp [PySem.strKind, Value.isStrOf]) (by have := hr.len; omega) fun h14 tk14 he hx => ?_
              have S14 := S13.same3 he hx
              clear S13
              refine wpAny_execs_nil ?_
              refine hNx ⟨I4, _, _, h14, tk14, rfl, k4.trans k5, ⟨upd l s d, _, by have := upd_len (l := l) (k := s) (d := d); omega, (hr.le (k4.trans k5)).store (hd'.le k5) s, upd_keys hok hok2, rfl, rfl⟩, ?_⟩
              have e : k + 1 + 1 + ((i + 1 : Nat) : Int) * (1 + cost deep) = k + 1 + 1 + i * (1 + cost deep) + cost deep + 1 := by push_cast; rw [Int.add_mul, Int.one_mul]; omega
              rw [e]
              exact S14
            · rintro I' l' C' h tk ⟨l, kvs, hll, hr, hok, rfl, rfl⟩ k3 S9
              replace c1 := c1.le k3; replace c2 := c2.le k3
              have hb : (nn : Int) * (1 + cost deep) ≤ 3 * (1 + cost deep) := Int.mul_le_mul_of_nonneg_right (by omega) (by omega)
              have hcs : cost (deep + 1) = 2 + 3 * (1 + cost deep) + 1 := rfl
              have S10 : St h₀ I' ((L, Loc [(Str.ofString "head", .ref hd), (Str.ofString "way", .int way tw)]) :: (hd, TopC w I' (2 * deep + 1) hd) :: (a, PenC (k + 1 + 1 + nn * (1 + cost deep))) :: C) h :=
                (S9.swap.mono fun o ho => ⟨l, kvs, ho, hr, by omega, hok⟩).swap
              clear S9
              dsimp only
              refine wpAny_execs_cons ?_
              walk_at "g"
              refine ifB (fun hw6 => ?_) (fun hw6 => ?_)
              · walk_at "g"
                exact q2 hd I' h _ (k1.trans (k2.trans k3)) ((S10.tail.mono fun o ⟨l, kvs, a1, a2, a3⟩ => ⟨l, kvs, a1, All2.imp (fun _ _ y => ⟨y.1, y.2.to (by omega)⟩) a2, a3⟩).swap.mono fun o ho => PenC.up ho (by omega)).swap
              · obtain ⟨I4, ll, k4, hdd, S11⟩ := S10.swap.frzTop
                clear S10
                replace c1 := c1.le k4; replace c2 := c2.le k4
                walk_at "g"
                walk_at "k"
                refine drawN [_] W (R'.less (by omega)) S11 (by omega) (by decide) (by decide) fun d1 t1 h13 tk13 d10 d11 S12 => ?_
                clear S11
                walk_at "g"
                refine lstN S12 (by simp) fun xl I5 h14 k5 il S13 => ?_
                clear S12
                replace c1 := c1.le k5; replace c2 := c2.le k5
                walk_at "g"
                refine bytesOne W (R'.less (by omega)) S13 il d10 (by omega) fun t3 h15 tk15 S14 => ?_
                clear S13
                walk_at "g"
                walk_at "k"
                refine newStream W (R'.less (by omega)) S14 fun x I6 h16 tk16 k6 ix S15 => ?_
                walk_at "g"
                refine q1 _ (.stream (.dict ll) _) I6 h16 tk16 (k1.trans (k2.trans (k3.trans (k4.trans (k5.trans k6))))) ⟨x, _, _, rfl, ix, hdd.le (k5.trans k6), ⟨_, rfl⟩, ?_⟩ (by simp) (S15.tail.mono fun o ho => ho.up (by omega))
                rcases (show d1 = 0 ∨ d1 = 1 by omega) with rfl | rfl
                · exact .inl rfl
                · exact .inr rfl
end
end
section -- P1
open PySem PySem.W PyProof.Rows PySem.Calls PySem.Spec
set_option maxRecDepth 100000
set_option maxHeartbeats 1000000
set_option linter.unusedVariables false
section
variable {w : World} {A : Around} {E : Value → Shared → Prop} {b : Bs} {h : Heap} {tk : Nat} {h₀ : Heap} {I : Fz} {C : List Cell} {Q : Value → Shared → Prop} {a : Addr}
noncomputable def Sub (l : List (Str × Value)) : List (Str × Value) → Prop | [] => True | p :: r => l.lookup p.1 = some p.2 ∧ Sub l r
theorem Sub.at {l : List (Str × Value)} : ∀ {m : List (Str × Value)} {x v}, Sub l m → m.lookup x = some v → l.lookup x = some v
  | [], x, v, _, e => by cases e
  | (y, u) :: r, x, v, ⟨a, s⟩, e => by
    rw [List.lookup_cons] at e
    split at e
    · rename_i h; cases e; rw [beq_iff_eq.mp h]; exact a
    · exact s.at e
theorem Loc.sub {l m : List (Str × Value)} {o : Obj} (y : Loc l o) (s : Sub l m) : Loc m o := let ⟨f, a, k⟩ := y; ⟨f, a, fun x v e => k x v (s.at e)⟩
theorem absI {x : Int} {t : Tok} (q : ∀ u tk', Q (.int (if x < 0 then -x else x) u) (sh b h tk')) : wpAny (model P0 w) A (call (.builtin "abs") [.int x t]) Q E (sh b h tk) := call_abs_int (s := sh b h tk) fun u tk' => q u tk'
theorem slUp {value slice : Expr} {vs : List Value} {k : Nat} {t : Tok} (S : St h₀ I C h) (hl : ListF I a vs) (hz : vs.length ≤ 1000)
    (q : ∀ x h', St h₀ I ((x, ListO (vs.take k).toArray) :: C) h' → Q (.ref x) (sh b h' tk))
    (hs : subscripted slice false (.ref a) (.ref h.objs.size) = operate [.ref h.objs.size, .ref a] (getItem (.ref a) (.ref h.objs.size)) := by with_unfolding_all rfl)
    (ht : ∀ r, letTemporaryGo value (.ref a) r = pure () := by intro _; with_unfolding_all rfl) :
    wpAny (model P0 w) A (subscriptTail value slice (.ref a) (.ref h.objs.size)) Q E (sh b (h.push { cls := .type "slice", data := .fields #[.none, .int k t, .none] }) tk) := by
  have l := hl.lst S
  refine subscriptTail_ops (Heap.IsList.typeIs (s := sh b (h.push _) tk) (l.push _)) list_getitem_lookup
    (wpAny_getItem_list_slice (s := sh b (h.push _) tk) (l.push _) (Heap.IsSliceOf.new ..) .none (.int _ _) .none (by simp) ?_ (by rw [sizeLine_eq]; simp; omega)) hs ht
  have S1 := S.ext (h' := h.push { cls := .type "slice", data := .fields #[.none, .int k t, .none] }) (fun _ _ e => Heap.get?_push_of_some _ e)
  rw [slicePick_upto']
  exact q _ _ (S1.push (o := { cls := .type "list", data := .seq (vs.take k).toArray }) ⟨rfl, _, rfl⟩ rfl)
theorem ints_at : ∀ {vs : List Value} {ns : List Int} {i : Nat} {v : Value}, IntsAre vs ns → vs[i]? = some v → ∃ n t, v = .int n t
  | _, _, 0, v, .cons n t _, e => by simp at e; exact ⟨n, t, e.symm⟩
  | _, _, i + 1, v, .cons n t r, e => ints_at r (by simpa using e)
theorem pen_spec {vs : List Value} {ns : List Int} (W : Wd (KK w.params) h₀) (R : Rm A 5) (S : St h₀ I C h) (hl : ListF I a vs) (hi_ : IntsAre vs ns) (hz : vs.length ≤ 1000)
    (q : ∀ p I' h' tk', Le I I' → St h₀ I' ((p, PenC 0) :: C) h' → Q (.ref p) (sh b h' tk')) : wpAny (model P0 w) A (call (.ref 387) [.ref a]) Q E (sh b h tk) := by
  refine callP W R S (f_law_pen w.params) (binds := [(Str.ofString "script", .ref a)]) (fun pm => BindsTo.of_eq (by kernel_rfl)) (by kernel_rfl) (by kernel_rfl) rfl rfl rfl fun A' L h₁ tk1 R' S' => ?_
  refine wpAny_execs_cons ?_
  walk_at "g"
  walk_at "s"; intro h2 tk2 S2; clear S'
  walk_at "g"
  refine wpAny_For ?_
  walk_at "g"
  refine wpAny_Slice ?_
  refine wpAny_pure ?_
  show wpAny _ _ (eval _ _) _ _ _
  walk_at "g"
  refine wpAny_pure ?_
  refine slUp (k := 24) S2 hl hz (fun x h3 S3 => ?_)
  clear S2
  replace S3 := S3.swap
  walk_at "g"
  have S3' := S3.swap
  clear S3
  refine itListC S3' fun I2 it h4 tk4 N k2 HI S4 => ?_
  clear S3'
  refine forF HI R'.hd (fun i I' l' C' => ∃ n t, 0 ≤ n ∧ l' = [(Str.ofString "number", Value.int n t), (Str.ofString "script", .ref a)] ∧ C' = C) S4.swap Le.rfl ⟨0, _, Int.le_refl 0, rfl, rfl⟩ ?_ ?_
  · rintro i I' l' C' h tk v hi ⟨n, t, hn, rfl, e⟩ k3 hv S5 Nx hNx
    obtain ⟨c, u, rfl⟩ := ints_at (hi_.take 24) (by simpa using hv)
    refine wpAny_assign_Name ?_
    walk_at "s"; intro h6 tk6 S6; clear S5
    refine wpAny_execs_cons ?_
    walk_at "g"
    refine mulI (.of_right (by decide)) fun _ _ => ?_
    walk_at "g"
    refine absI fun _ _ => ?_
    refine mulI (.of_left (by decide)) fun _ _ => ?_
    walk_at "g"
    have h0 : 0 ≤ n * 1000003 := Int.mul_nonneg hn (by decide)
    refine ifD (fun hc => ?_) (fun hc => ?_) <;>
    · walk_at "g"
      walk_at "s"; intro h7 tk7 S7; clear S6
      walk_at "g"
      refine hNx ⟨I', _, C', h7, tk7, rfl, Le.rfl, ⟨_, _, ?_, rfl, e⟩, S7.mono fun o ho => ho.sub ⟨rfl, rfl, trivial⟩⟩
      split <;> omega
  · rintro I' l' C' h tk ⟨n, t, hn, rfl, e⟩ k3 S5
    walk_at "g"
    refine lstC S5 (by simp) fun p h6 S6 => ?_
    exact q p I' h6 _ (k2.trans k3) (e ▸ S6.swap.tail.mono fun o ho => ⟨n, 0, _, _, hn, by decide, by decide, ho⟩)
end
end
section -- S1
open PySem PySem.W PyProof.Rows PySem.Calls PySem.Spec
set_option maxRecDepth 100000
set_option maxHeartbeats 1000000
set_option linter.unusedVariables false
section
variable {h₀ h h' : Heap} {I J : Fz} {C D : List Cell} {a b c d e : Cell}
theorem St.rot3 (S : St h₀ I (a :: b :: c :: C) h) : St h₀ I (b :: c :: a :: C) h := S.perm (List.perm_middle (l₁ := [b, c])).symm
theorem St.rot4 (S : St h₀ I (a :: b :: c :: d :: C) h) : St h₀ I (b :: c :: d :: a :: C) h := S.perm (List.perm_middle (l₁ := [b, c, d])).symm
theorem St.ror3 (S : St h₀ I (a :: b :: c :: C) h) : St h₀ I (c :: a :: b :: C) h := S.perm (List.perm_middle (l₁ := [a, b]))
theorem St.ror4 (S : St h₀ I (a :: b :: c :: d :: C) h) : St h₀ I (d :: a :: b :: c :: C) h := S.perm (List.perm_middle (l₁ := [a, b, c]))
theorem St.swap23 (S : St h₀ I (a :: b :: c :: C) h) : St h₀ I (a :: c :: b :: C) h := S.perm (.cons _ (.swap _ _ _))
end
section
variable {w : World} {A : Around} {E : Value → Shared → Prop} {b : Bs} {h : Heap} {tk : Nat} {h₀ : Heap} {I : Fz} {C : List Cell} {Q : Value → Shared → Prop} {a : Addr}
noncomputable def sTr : Str := Str.ofString "trailer"
noncomputable def sTb : Str := Str.ofString "table"
theorem newShelf0 (W : Wd (KK w.params) h₀) (R : Rm A 5) (S : St h₀ I C h)
    (q : ∀ x dx tb td I' h' tk', Le I I' → I' x (instObj 356 dx) → St h₀ I' ((dx, AttO [(sTr, .ref td), (sTb, .ref tb)]) :: (tb, DicC (iK w) tb []) :: C) h' → Q (.ref x) (sh b h' tk')) :
    wpAny (model P0 w) A (call (.ref 356) []) Q E (sh b h tk) := by
  refine newI (k := 3) (binds := fun x => [(Str.ofString "self", .ref x), (Str.ofString "table", .none), (Str.ofString "trailer", .none)]) W R S (by kernel_rfl) (by kernel_rfl) (f_Lookup_init w.params)
    (fun pm h' x tk' hk => kp_binds (K := KK w.params) (fun c o e => hk c o (S.Kin W c o e)) fun _ => by kernel_rfl) (fun x => by kernel_rfl) (by kernel_rfl) rfl rfl rfl fun A' x dx L h₁ tk1 R' S' => ?_
  refine wpAny_execs_cons ?_
  walk_at "g"
  refine is_none_none ?_
  walk_at "g"
  refine dNew (iK w) W S' fun tb h2 S2 => ?_
  clear S'
  walk_at "g"
  have S3 := S2.rot4
  clear S2
  walk_at "g"
  refine setA (K := KK w.params) (Cl := 356) W S3 (eX S3 rfl) (by simp) (by kernel_rfl) (by kernel_rfl) (by kernel_rfl) (by kernel_rfl) fun h3 tk3 S4 => ?_
  clear S3
  walk_at "g"
  refine is_none_none ?_
  walk_at "g"
  refine dNew (iK w) W S4 fun td h4 S5 => ?_
  have S6 := S5.rot4
  clear S4 S5
  walk_at "g"
  refine setA (K := KK w.params) (Cl := 356) W S6 (eX S6 rfl) (by simp) (by kernel_rfl) (by kernel_rfl) (by kernel_rfl) (by kernel_rfl) fun h5 tk5 S7 => ?_
  clear S6
  walk_at "g"
  refine ⟨rfl, ?_⟩
  obtain ⟨o, rfl, S8⟩ := S7.tail.swap.freeze
  exact q x dx tb td _ _ _ Add.le Add.new S8.skip
theorem newShelf2 {v1 v2 : Value} (W : Wd (KK w.params) h₀) (R : Rm A 5) (S : St h₀ I C h) (n1 : v1 ≠ .none) (n2 : v2 ≠ .none)
    (q : ∀ x I' h' tk', Le I I' → InstF I' x 356 [(sTr, v2), (sTb, v1)] → St h₀ I' C h' → Q (.ref x) (sh b h' tk')) :
    wpAny (model P0 w) A (call (.ref 356) [v1, v2]) Q E (sh b h tk) := by
  refine newI (k := 3) (binds := fun x => [(Str.ofString "self", .ref x), (Str.ofString "table", v1), (Str.ofString "trailer", v2)]) W R S (by kernel_rfl) (by kernel_rfl) (f_Lookup_init w.params)
    (fun pm h' x tk' hk => kp_binds (K := KK w.params) (fun c o e => hk c o (S.Kin W c o e)) fun _ => by kernel_rfl) (fun x => by kernel_rfl) (by kernel_rfl) rfl rfl rfl fun A' x dx L h₁ tk1 R' S' => ?_
  refine wpAny_execs_cons ?_
  walk_at "g"
  refine is_none_ne n1 ?_
  walk_at "g"
  walk_at "g"
  refine setA (K := KK w.params) (Cl := 356) W S' (eX S' rfl) (by simp) (by kernel_rfl) (by kernel_rfl) (by kernel_rfl) (by kernel_rfl) fun h3 tk3 S4 => ?_
  clear S'
  walk_at "g"
  refine is_none_ne n2 ?_
  walk_at "g"
  walk_at "g"
  refine setA (K := KK w.params) (Cl := 356) W S4 (eX S4 rfl) (by simp) (by kernel_rfl) (by kernel_rfl) (by kernel_rfl) (by kernel_rfl) fun h5 tk5 S5 => ?_
  clear S4
  walk_at "g"
  refine ⟨rfl, ?_⟩
  obtain ⟨I', k, i, F⟩ := S5.tail.frzI
  exact q _ _ _ _ k i F
theorem instC {x dx Cl : Addr} {l : List (Str × Value)} (hx : I x (instObj Cl dx)) (S : St h₀ I C h) (hm : (dx, AttO l) ∈ C) : InstH h x Cl l :=
  let ⟨o, a, b⟩ := S.cs _ hm; ⟨dx, o, S.fz _ _ hx, a, b⟩
theorem put_spec {x dx tb : Addr} {l : List (Str × Value)} {kvs : List (Int × Value)} {n : Int} {tn : Tok} {v1 v2 : Value} (W : Wd (KK w.params) h₀) (R : Rm A 5) (hx : I x (instObj 356 dx)) (hl : l.lookup sTb = some (.ref tb)) (hz : kvs.length ≤ 1000)
    (S : St h₀ I ((tb, DicC (iK w) tb kvs) :: (dx, AttO l) :: C) h)
    (q : ∀ t I' h' tk', Le I I' → TupF I' t [v1, v2] → St h₀ I' ((tb, DicC (iK w) tb (stored kvs n (.ref t))) :: (dx, AttO l) :: C) h' → Q .none (sh b h' tk')) :
    wpAny (model P0 w) A (call (.ref 320) [.ref x, .int n tn, v1, v2]) Q E (sh b h tk) := by
  refine callP W R S (f_Shelf_put w.params) (binds := [(Str.ofString "self", .ref x), (Str.ofString "number", .int n tn), (Str.ofString "generation", v1), (Str.ofString "value", v2)]) (fun pm => BindsTo.of_eq (by kernel_rfl)) (by kernel_rfl) (by kernel_rfl) rfl rfl rfl fun A' L h₁ tk1 R' S' => ?_
  refine wpAny_execs_cons ?_
  walk_at "g"
  refine tupN S' (by simp) fun t I2 h2 k2 it S2 => ?_
  clear S'
  walk_at "g"
  refine getA (K := KK w.params) W S2 (instC (k2 _ _ hx) S2 (l := l) (by simp)) (v := .ref tb) hl (by kernel_rfl) (by kernel_rfl) (attr := none) (by kernel_rfl) (by kernel_rfl) (by kernel_rfl) fun tk3 => ?_
  walk_at "g"
  refine dSet (k := n) (DicH.ofC S2.tail.head) (by simp [PySem.intKind, Value.isInt]) (by omega) fun h4 tk4 he hx' => ?_
  have S4 := S2.same2 he hx'
  clear S2
  refine wpAny_execs_nil ?_
  exact q t I2 h4 tk4 k2 it S4.tail
end
end
section -- S2
open PySem PySem.W PyProof.Rows PySem.Calls PySem.Spec
set_option maxRecDepth 100000
set_option maxHeartbeats 1000000
set_option linter.unusedVariables false
inductive Sl | done | fixed | top (y : Addr)
noncomputable def EntOk (w : World) (I : Fz) (p : Int × Value) (s : Sl) : Prop :=
  ∃ t g tg u, p.2 = .ref t ∧ TupF I t [.int g tg, u] ∧ smallI g ∧ match s with | .done => ∃ d, IsD w I 6 d u | .fixed => ∃ d, IsD w I 6 d u ∧ ∀ l, d ≠ .dict l | .top y => u = .ref y
theorem EntOk.le {w : World} {I J : Fz} {p : Int × Value} {s : Sl} (e : EntOk w I p s) (k : Le I J) : EntOk w J p s := by
  obtain ⟨t, g, tg, u, a, b, c, d⟩ := e
  refine ⟨t, g, tg, u, a, b.le k, c, ?_⟩
  cases s with
  | done => exact let ⟨x, y⟩ := d; ⟨x, y.le k⟩
  | fixed => exact let ⟨x, y, z⟩ := d; ⟨x, y.le k, z⟩
  | top y => exact d
noncomputable def topsC (w : World) (I : Fz) : List Sl → List Cell
  | [] => []
  | .top y :: r => (y, TopC w I 4 y) :: topsC w I r
  | _ :: r => topsC w I r
theorem topsC_append {w : World} {I : Fz} : ∀ (a b : List Sl), topsC w I (a ++ b) = topsC w I a ++ topsC w I b
  | [], b => rfl
  | .top y :: r, b => congrArg ((y, TopC w I 4 y) :: ·) (topsC_append r b)
  | .done :: r, b => topsC_append (w := w) (I := I) r b
  | .fixed :: r, b => topsC_append (w := w) (I := I) r b
inductive Imp2 : List Cell → List Cell → Prop
  | nil : Imp2 [] []
  | cons {a : Addr} {P P' : Obj → Prop} {C D} (x : ∀ o, P o → P' o) (y : Imp2 C D) : Imp2 ((a, P) :: C) ((a, P') :: D)
theorem Imp2.refl : ∀ C, Imp2 C C | [] => .nil | (_, _) :: C => .cons (fun _ h => h) (Imp2.refl C)
theorem Imp2.app : ∀ {A B C D}, Imp2 A B → Imp2 C D → Imp2 (A ++ C) (B ++ D)
  | _, _, _, _, .nil, h => h
  | _, _, _, _, .cons x y, h => .cons x (y.app h)
theorem Imp2.tops {w : World} {I J : Fz} (k : Le I J) : ∀ os, Imp2 (topsC w I os) (topsC w J os)
  | [] => .nil
  | .top y :: r => .cons (fun o h => h.le k) (Imp2.tops k r)
  | .done :: r => Imp2.tops k r
  | .fixed :: r => Imp2.tops k r
theorem Imp2.fst : ∀ {C D}, Imp2 C D → D.map (·.1) = C.map (·.1)
  | _, _, .nil => rfl
  | _, _, .cons x y => by rw [List.map_cons, List.map_cons, y.fst]
theorem Imp2.at : ∀ {C D}, Imp2 C D → ∀ q ∈ D, ∃ p ∈ C, p.1 = q.1 ∧ ∀ o, p.2 o → q.2 o
  | _, _, .cons x y, q, h => by
    rcases List.mem_cons.mp h with rfl | h
    · exact ⟨_, .head _, rfl, x⟩
    · obtain ⟨p, a, b⟩ := y.at q h; exact ⟨p, .tail _ a, b⟩
theorem St.imp {h₀ h : Heap} {I : Fz} {C D : List Cell} (S : St h₀ I C h) (i : Imp2 C D) : St h₀ I D h :=
  ⟨S.base, S.fz, fun q hq => let ⟨p, a, b, c⟩ := i.at q hq; let ⟨o, d, e⟩ := S.cs p a; ⟨o, b ▸ d, c o e⟩, fun q hq => let ⟨p, a, b, c⟩ := i.at q hq; b ▸ S.sep p a, i.fst ▸ S.nd⟩
theorem stored_new {K : Type} [DecidableEq K] {l : List (K × Value)} {k : K} {v : Value} (h : ∀ p ∈ l, p.1 ≠ k) : stored l k v = l ++ [(k, v)] := by
  unfold stored
  rw [if_neg]
  simp only [List.any_eq_true, decide_eq_true_eq, not_exists, not_and]
  exact fun p hp e => h p hp e
section
variable {w : World} {A : Around} {E : Value → Shared → Prop} {b : Bs} {h : Heap} {tk : Nat} {h₀ : Heap} {I : Fz} {C : List Cell} {Q : Value → Shared → Prop} {a : Addr}
theorem dDisp {env : Env} {keys : List (Option Expr)} {values : List Expr} {pos : Pos} (W : Wd (KK w.params) h₀) (S : St h₀ I C h) (hall : keys.all (·.isSome) = true) (hl : keys.length = values.length) (h0 : keys ≠ []) (hlen : keys.length ≤ 15)
    (q : ∀ d h', St h₀ I ((d, DicC (sK w) d []) :: C) h' → wpAny (model P0 w) A (evalPairs (pairTrees keys values env pos)) (fun vs s₁ => ∃ kvs I' C' h1 tk1, s₁ = sh b h1 tk1 ∧ Carries (sK w) vs kvs ∧ St h₀ I' ((d, DicC (sK w) d []) :: C') h1 ∧
      ∀ h2 tk2, St h₀ I' ((d, DicC (sK w) d (merged [] kvs)) :: C') h2 → Q (.ref d) (sh b h2 tk2)) E (sh b h' tk)) : wpAny (model P0 w) A (eval (.Dict keys values pos) env) Q E (sh b h tk) := by
  refine wpAny_Dict_walk (knd := sK w) hall hl h0 hlen ?_
  have hd : h.objs.size ≠ sysModules := big W S
  have S1 : St h₀ I ((h.objs.size, DicC (sK w) h.objs.size []) :: C) (h.push { cls := .type "dict", data := .dict #[] }) := S.push ⟨hd, by
    obtain ⟨o, e, x⟩ := Heap.dictOf_iff.mp (Heap.DictOf.new (knd := sK w) h)
    rw [Heap.get?_push_size _ rfl] at e; cases e; exact x⟩ rfl
  refine wpAny_mono (q _ _ S1) (fun vs s₁ z => ?_) fun _ _ z => z
  obtain ⟨kvs, I', C', h1, tk1, rfl, hc, S2, hq⟩ := z
  refine ⟨kvs, hc, (DicH.ofC S2.head).2, fun h' hm hs => ?_⟩
  exact hq h' _ (S2.same hs.extBut (let ⟨o, e, y⟩ := Heap.dictOf_iff.mp hm; ⟨o, e, hd, y⟩))
end
end
section -- S3
open PySem PySem.W PyProof.Rows PySem.Calls PySem.Spec
set_option maxRecDepth 100000
set_option maxHeartbeats 1000000
set_option linter.unusedVariables false
section
variable {w : World} {A : Around} {E : Value → Shared → Prop} {b : Bs} {h : Heap} {tk : Nat} {h₀ : Heap} {I : Fz} {C : List Cell} {Q : Value → Shared → Prop} {a : Addr}
theorem okRow_of {k : Str} {d : D} (h : k ∈ okKeys) (g : k ≠ Str.ofString "Type") : okRow (k, d) := ⟨h, fun e => absurd e g⟩
theorem posd {M : Model} {v : Expr} {env : Env} {pos : Pos} {s : Shared} (x : wpAny M A (eval v env) Q E s) : wpAny M A (do let x ← eval v env; standAt pos; pure x) Q E s :=
  wpAny_bind (wpAny_mono x (fun _ _ h => wpAny_bind (wpAny_standAt (wpAny_pure h))) fun _ _ h => h)
theorem pairN {M : Model} {k v : Expr} {ks : List (Option Expr)} {vs : List Expr} {env : Env} {pos : Pos} {s : Shared} {Q : List (Value × Value) → Shared → Prop} (x : wpAny (model P0 w) A (eval k env) (fun kv s₁ => wpAny (model P0 w) A (eval v env) (fun vv s₂ => wpAny (model P0 w) A (evalPairs (pairTrees ks vs env pos)) (fun ps s₃ => Q ((kv, vv) :: ps) s₃) E s₂) E s₁) E s) :
    wpAny (model P0 w) A (evalPairs (pairTrees (some k :: ks) (v :: vs) env pos)) Q E s :=
  evalPairs_cons (wpAny_mono x (fun _ _ h => posd h) fun _ _ h => h)
theorem St.blk (l1 l2 : List Cell) {l3 : List Cell} (S : St h₀ I (l1 ++ (l2 ++ l3)) h) : St h₀ I (l2 ++ (l1 ++ l3)) h := S.perm (List.perm_append_comm_assoc l1 l2 l3)
noncomputable def Cs (w : World) (I : Fz) (tb dx a td : Addr) (kvs : List (Int × Value)) (k : Int) (os : List Sl) (C : List Cell) : List Cell :=
  (tb, DicC (iK w) tb kvs) :: (dx, AttO [(sTr, .ref td), (sTb, .ref tb)]) :: (a, PenC k) :: (topsC w I os ++ C)
theorem Cs.le {I J K : Fz} {L : Cell} {tb dx a td : Addr} {kvs : List (Int × Value)} {k : Int} {os : List Sl} {C : List Cell} (hk : Le J K) (S : St h₀ I (L :: Cs w J tb dx a td kvs k os C) h) : St h₀ I (L :: Cs w K tb dx a td kvs k os C) h :=
  S.imp (.cons (fun _ h => h) (.cons (fun _ h => h) (.cons (fun _ h => h) (.cons (fun _ h => h) ((Imp2.tops hk os).app (Imp2.refl C))))))
structure KV (w : World) (I : Fz) (kvs : List (Int × Value)) (os : List Sl) (i : Nat) : Prop where
  al : All2 (EntOk w I) kvs os
  nd : ∀ s ∈ os, s ≠ .done
  pw : (kvs.map (·.1)).Pairwise (· < ·)
  bd : ∀ p ∈ kvs, 1 ≤ p.1 ∧ p.1 ≤ i
  ln : kvs.length ≤ i
theorem KV.nil : KV w I [] [] 0 := ⟨.nil, by simp, by simp, by simp, by simp⟩
theorem KV.le {J : Fz} {kvs : List (Int × Value)} {os : List Sl} {i : Nat} (x : KV w I kvs os i) (k : Le I J) : KV w J kvs os i := ⟨x.al.imp fun _ _ e => e.le k, x.nd, x.pw, x.bd, x.ln⟩
theorem KV.skip {kvs : List (Int × Value)} {os : List Sl} {i : Nat} (x : KV w I kvs os i) : KV w I kvs os (i + 1) := ⟨x.al, x.nd, x.pw, fun p hp => by have := x.bd p hp; omega, by have := x.ln; omega⟩
theorem KV.upTo {kvs : List (Int × Value)} {os : List Sl} {i j : Nat} (x : KV w I kvs os i) (h : i ≤ j) : KV w I kvs os j := ⟨x.al, x.nd, x.pw, fun p hp => by have := x.bd p hp; omega, by have := x.ln; omega⟩
theorem KV.snoc {kvs : List (Int × Value)} {os : List Sl} {i : Nat} {v : Value} {s : Sl} (x : KV w I kvs os i) (e : EntOk w I ((1 + (i : Int)), v) s) (h : s ≠ .done) : KV w I (stored kvs (1 + (i : Int)) v) (os ++ [s]) (i + 1) := by
  have hk : ∀ p ∈ kvs, p.1 ≠ 1 + (i : Int) := fun p hp => by have := x.bd p hp; omega
  rw [stored_new hk]
  refine ⟨x.al.snoc e, fun s' hs => ?_, ?_, fun p hp => ?_, by have := x.ln; simp; omega⟩
  · rcases List.mem_append.mp hs with hs | hs
    · exact x.nd s' hs
    · rw [List.mem_singleton.mp hs]; exact h
  · rw [List.map_append, List.pairwise_append]
    refine ⟨x.pw, by simp, fun a ha c hc => ?_⟩
    obtain ⟨p, hp, rfl⟩ := List.mem_map.mp ha
    have := x.bd p hp
    simp at hc; omega
  · rcases List.mem_append.mp hp with hp | hp
    · have := x.bd p hp; omega
    · rw [List.mem_singleton.mp hp]; dsimp only; omega
theorem shelf_spec (W : Wd (KK w.params) h₀) (R : Rm A 40) (S : St h₀ I ((a, PenC 0) :: C) h)
    (q : ∀ x tb kvs os dtr vt l I' h' tk', Le I I' → InstF I' x 356 l → l.lookup sTr = some vt → l.lookup sTb = some (.ref tb) → DicF (iK w) I' tb kvs → IsD w I' 6 (.dict dtr) vt → KV w I' kvs os 6 → (∀ n, n ≠ sTb → n ≠ sTr → l.lookup n = none) → St h₀ I' ((a, PenC 1000) :: (topsC w I' os ++ C)) h' → Q (.ref x) (sh b h' tk')) :
    wpAny (model P0 w) A (call (.ref 406) [.ref a]) Q E (sh b h tk) := by
  refine callP W R S (f_law_shelf w.params) (binds := [(Str.ofString "pen", .ref a)]) (fun pm => BindsTo.of_eq (by kernel_rfl)) (by kernel_rfl) (by kernel_rfl) rfl rfl rfl fun A' L h₁ tk1 R' S1 => ?_
  refine wpAny_execs_cons ?_
  walk_at "g"
  refine callWith_K0 (S1.Kin W) (by kernel_rfl) ?_
  refine newShelf0 W (R'.less (by omega)) S1 fun x dx tb td I2 h2 tk2 k2 hx S2 => ?_
  have S3 := S2.ror3.swap23
  clear S1 S2
  walk_at "s"; intro h3 tk3 S4; clear S3
  walk_at "g"
  refine wpAny_For ?_
  walk_at "g"
  walk_at "k"
  refine drawN [_, _, _] W (R'.less (by omega)) S4 (by omega) (by decide) (by decide) fun d1 t1 h5 tk5 d10 d11 S5 => ?_
  clear S4
  walk_at "g"
  obtain ⟨nn, rfl⟩ := Int.eq_ofNat_of_zero_le d10
  refine rng2 (n := nn + 1) (by omega) S5 fun r I3 h6 tk6 k3 ir S6 => ?_
  clear S5
  refine itRng S6 ir (by decide) (by decide) (by omega) fun it h7 tk7 N HI S7 => ?_
  clear S6
  refine forF HI R'.hd (fun i I' l' C' => ∃ kvs os, KV w I' kvs os i ∧
    l' = [(Str.ofString "shelf", .ref x), (Str.ofString "pen", .ref a)] ∧ C' = Cs w I' tb dx a td kvs (1 + i * 53) os C) S7.swap Le.rfl ⟨[], [], .nil, rfl, rfl⟩ ?_ ?_
  · rintro i I' l' C' h tk v hi ⟨kvs, os, hkv, rfl, rfl⟩ k4 ⟨tv, rfl⟩ S8 Nx hNx
    refine wpAny_assign_Name ?_
    unfold Cs at S8
    walk_at "s"; intro h8 tk8 S9; clear S8
    replace S9 := S9.mono fun o ho => ho.sub (m := [(Str.ofString "number", .int (1 + i) tv), (Str.ofString "shelf", .ref x), (Str.ofString "pen", .ref a)]) ⟨rfl, rfl, rfl, trivial⟩
    have hb : (i : Int) ≤ 5 := by omega
    refine wpAny_execs_cons ?_
    walk_at "g"
    walk_at "k"
    refine drawN [_, _, _, _] W (R'.less (by omega)) S9 (by omega) (by decide) (by decide) fun d2 t2 h9 tk9 d20 d21 S10 => ?_
    clear S9
    walk_at "g"
    refine ifD (fun hw => ?_) (fun hw => ?_)
    · walk_at "g"
      have hx' : I' x (instObj 356 dx) := k4 _ _ (k3 _ _ hx)
      refine getM (K := KK w.params) (f := 320) W S10 (instC hx' S10 (l := [(sTr, .ref td), (sTb, .ref tb)]) (by simp)) (by kernel_rfl) (by kernel_rfl) (by kernel_rfl) (by kernel_rfl) (by rfl) ?_
      walk_at "g"
      walk_at "k"
      refine drawN [_, _, _, _] W (R'.less (by omega)) S10 (by omega) (by decide) (by decide) fun d3 t3 h11 tk11 d30 d31 S11 => ?_
      clear S10
      walk_at "g"
      refine divI (by decide) (by decide) fun tg tk12 => ?_
      walk_at "g"
      walk_at "k"
      refine value_spec 2 W (R'.less (by omega)) (S11.perm List.perm_middle) (by simp only [cost]; omega) (fun v d I4 h13 tk13 k5 hd hnd2 S12 => ?_) fun y I4 h13 tk13 k5 S12 => ?_
      · clear S11
        walk_at "g"
        refine ⟨S12.Kin W, ?_⟩
        refine put_spec W (R'.less (by omega)) (k5 _ _ hx') (by rfl) (by have := hkv.ln; omega) (St.blk [_, _, _] [_, _] S12) fun t I5 h14 tk14 k6 it2 S13 => ?_
        replace S13 := St.blk [_, _, _] [_, _] S13
        clear S12
        walk_at "g"
        have e1 : EntOk w I5 ((1 + (i : Int)), .ref t) .fixed := ⟨t, _, _, _, rfl, it2, small_fdiv d30 (by omega), d, (hd.to (by omega)).le k6, hnd2⟩
        refine hNx ⟨I5, _, _, h14, _, rfl, k5.trans k6, ⟨_, _, (hkv.le (k5.trans k6)).snoc e1 (by simp), rfl, rfl⟩, S13.imp ?_⟩
        rw [Cs, topsC_append, List.append_assoc]
        exact .cons (fun o ho => ho.sub ⟨rfl, rfl, trivial⟩) (.cons (fun _ h => h) (.cons (fun _ h => h) (.cons (fun _ h => h) (.cons (fun o ho => ho.up (by simp only [cost]; push_cast; omega)) ((Imp2.tops (k5.trans k6) os).app (Imp2.refl C))))))
      · clear S11
        walk_at "g"
        refine ⟨S12.Kin W, ?_⟩
        refine put_spec W (R'.less (by omega)) (k5 _ _ hx') (by rfl) (by have := hkv.ln; omega) (St.blk [_, _, _, _] [_, _] S12) fun t I5 h14 tk14 k6 it2 S13 => ?_
        replace S13 := St.blk [_, _, _, _] [_, _] S13
        clear S12
        walk_at "g"
        have e1 : EntOk w I5 ((1 + (i : Int)), .ref t) (.top y) := ⟨t, _, _, _, rfl, it2, small_fdiv d30 (by omega), rfl⟩
        refine hNx ⟨I5, _, _, h14, _, rfl, k5.trans k6, ⟨_, _, (hkv.le (k5.trans k6)).snoc e1 (by simp), rfl, rfl⟩, ?_⟩
        rw [Cs, topsC_append, List.append_assoc]
        have S14 := S13.imp (.cons (fun o ho => ho.sub (m := [(Str.ofString "shelf", .ref x), (Str.ofString "pen", .ref a)]) ⟨rfl, rfl, trivial⟩) (.cons (fun _ h => h) (.cons (fun _ h => h) (.cons (fun _ h => h)
          (.cons (fun o ho => TopC.le (J := I5) ho k6) (.cons (fun o ho => PenC.up (k' := 1 + ((i + 1 : Nat) : Int) * 53) ho (by simp only [cost]; push_cast; omega)) ((Imp2.tops (k5.trans k6) os).app (Imp2.refl C))))))))
        exact S14.perm (.cons _ (.cons _ (.cons _ (.cons _ ((List.Perm.swap _ _ _).trans (.cons _ List.perm_middle.symm))))))
    · walk_at "g"
      refine hNx ⟨I', _, _, h9, _, rfl, Le.rfl, ⟨kvs, os, hkv.skip, rfl, rfl⟩, S10.imp ?_⟩
      exact .cons (fun o ho => ho.sub ⟨rfl, rfl, trivial⟩) (.cons (fun _ h => h) (.cons (fun _ h => h) (.cons (fun _ h => h) (.cons (fun o ho => ho.up (by push_cast; omega)) (Imp2.refl _)))))
  · rintro I' l' C' h tk ⟨kvs, os, hkv, rfl, rfl⟩ k4 S8
    walk_at "g"
    refine dDisp W S8 (by rfl) (by rfl) (by simp) (by decide) fun dt h8 S9 => ?_
    clear S8
    have S10 := S9.swap
    clear S9
    refine pairN (M := model P0 w) ?_
    walk_at "g"
    walk_at "k"
    refine drawN [_, _, _, _] W (R'.less (by omega)) S10 (by omega) (by decide) (by decide) fun d2 t2 h9 tk9 d20 d21 S11 => ?_
    clear S10
    walk_at "g"
    walk_at "k"
    refine newRef W (R'.less (by omega)) S11 fun rr I4 h10 tk10 k5 ix S12 => ?_
    clear S11
    refine pairN (M := model P0 w) ?_
    walk_at "g"
    walk_at "k"
    refine VSpec.frz (deep := 1) (value_spec 1) [_, _, _, _] W (R'.less (by omega)) S12 ?_ fun v d I5 h11 tk11 k6 hd S13 => ?_
    · simp only [cost]; omega
    clear S12
    refine pairN (M := model P0 w) ?_
    walk_at "g"
    refine pairN (M := model P0 w) ?_
    walk_at "g"
    refine evalPairs_nil ?_
    refine ⟨[(Str.ofString "Root", .ref rr), (Str.ofString "Info", v), (Str.ofString "Size", .int 7 _), (Str.ofString "Prev", .int 40 _)], I5, _, h11, _, rfl, ⟨strKind_is P0 w _ _, rfl, strKind_is P0 w _ _, rfl, strKind_is P0 w _ _, rfl, strKind_is P0 w _ _, rfl, trivial⟩, S13.swap, fun h12 tk12 S14 => ?_⟩
    clear S13
    obtain ⟨od, hod, S15⟩ := S14.freeze
    clear S14
    have S16 := S15.swap23
    clear S15
    walk_at "g"
    refine setA (K := KK w.params) (Cl := 356) W S16 (S16.fz _ _ (.inl (k6 _ _ (k5 _ _ (k4 _ _ (k3 _ _ hx)))))) (by simp) (by kernel_rfl) (by kernel_rfl) (by kernel_rfl) (by kernel_rfl) fun h13 tk13 S17 => ?_
    clear S16
    walk_at "g"
    have S18 := S17.tail
    clear S17
    obtain ⟨ox, hox, S19⟩ := S18.freeze
    obtain ⟨ot, hot, S20⟩ := S19.freeze
    have k7 : Le I5 (Add (Add (Add I5 dt od) dx ox) tb ot) := fun _ _ e => .inl (.inl (.inl e))
    have k8 : Le I' (Add (Add (Add I5 dt od) dx ox) tb ot) := (k5.trans k6).trans k7
    refine q x tb kvs os [(Str.ofString "Root", .ref (1 + d2) 0), (Str.ofString "Info", d), (Str.ofString "Size", .int 7), (Str.ofString "Prev", .int 40)] (.ref dt) [(sTr, .ref dt), (sTr, .ref td), (sTb, .ref tb)] _ h13 tk13 (k2.trans (k3.trans (k4.trans k8)))
      ⟨dx, ox, k8 _ _ (k4 _ _ (k3 _ _ hx)), .inl Add.new, hox⟩ rfl rfl ⟨ot, Add.new, hot⟩ ⟨dt, _, rfl, ⟨od, .inl (.inl Add.new), hod⟩, ?_, by simp, ?_⟩ ((hkv.le k8).upTo (by omega)) (fun n h1 h2 => by rw [List.lookup_cons, show (n == sTr) = false by simpa using h2, List.lookup_cons, show (n == sTr) = false by simpa using h2, List.lookup_cons, show (n == sTb) = false by simpa using h1]; rfl) ?_
    · have e1 : IsD w (Add (Add (Add I5 dt od) dx ox) tb ot) 5 (.ref (1 + d2) 0) (.ref rr) := ⟨rr, _, _, rfl, (ix.le k6).le k7, by constructor <;> omega, by constructor <;> omega⟩
      have e2 : IsD w (Add (Add (Add I5 dt od) dx ox) tb ot) 5 d v := (hd.to (by omega)).le k7
      exact .cons ⟨rfl, e1⟩ (.cons ⟨rfl, e2⟩ (.cons ⟨rfl, _, rfl, by constructor <;> omega⟩ (.cons ⟨rfl, _, rfl, by constructor <;> omega⟩ .nil)))
    · intro p hp
      simp only [List.mem_cons, List.not_mem_nil, or_false] at hp
      rcases hp with rfl | rfl | rfl | rfl <;> exact okRow_of (by decide +kernel) (by decide +kernel)
    · refine (S20.imp (D := (a, PenC 1000) :: (topsC w (Add (Add (Add I5 dt od) dx ox) tb ot) os ++ C)) (.cons (fun o ho => ho.up ?_) ((Imp2.tops k8 os).app (Imp2.refl C))))
      simp only [cost]; omega
end
end
section -- I2
open PySem PySem.W PyProof.Rows PySem.Calls PySem.Spec
set_option maxRecDepth 100000
set_option linter.unusedVariables false
inductive Cl | bool | int | dec | name | string | list | dict | stream | ref
noncomputable def Cl.v : Cl → Value
  | .bool => .type "bool" | .int => .type "int" | .dec => .ref 143 | .name => .ref 171 | .string => .ref 193 | .list => .type "list" | .dict => .type "dict" | .stream => .ref 214 | .ref => .ref 242
noncomputable def isK : Cl → D → Bool
  | .int, .int _ => true | .name, .name _ => true | .list, .arr _ => true | .dict, .dict _ => true | .stream, .stream _ _ => true | .ref, .ref _ _ => true | _, _ => false
theorem cl_ty : ∀ c : Cl, TyT c.v
  | .bool => tyT_type rfl | .int => tyT_type rfl | .dec => tyT_ref fun _ => by kernel_rfl | .name => tyT_ref fun _ => by kernel_rfl | .string => tyT_ref fun _ => by kernel_rfl
  | .list => tyT_type rfl | .dict => tyT_type rfl | .stream => tyT_ref fun _ => by kernel_rfl | .ref => tyT_ref fun _ => by kernel_rfl
theorem cl_ok (P : Params) : ∀ c : Cl, TyOk (KK P) c.v
  | .bool => trivial | .int => trivial | .dec => by show (clsIn (KK P) 143).isSome = true; kernel_rfl | .name => by show (clsIn (KK P) 171).isSome = true; kernel_rfl | .string => by show (clsIn (KK P) 193).isSome = true; kernel_rfl
  | .list => trivial | .dict => trivial | .stream => by show (clsIn (KK P) 214).isSome = true; kernel_rfl | .ref => by show (clsIn (KK P) 242).isSome = true; kernel_rfl
structure InstK (P : Params) (x : Addr) : Prop where
  f1 : plainGet (KK P) x "__class__" = true
  f2 : hasDictIn (KK P) x = true
  f3 : findIn (KK P) (.ref x) "__class__" = some (some (.builtin "object.__class__"))
  f6 : mroIn (KK P) x (.type "object") = some true
  f7 : TyOk (KK P) (.ref x)
theorem ik_name (P : Params) : InstK P 171 := ⟨by kernel_rfl, by kernel_rfl, by kernel_rfl, by kernel_rfl, cl_ok P .name⟩
theorem ik_stream (P : Params) : InstK P 214 := ⟨by kernel_rfl, by kernel_rfl, by kernel_rfl, by kernel_rfl, cl_ok P .stream⟩
theorem ik_ref (P : Params) : InstK P 242 := ⟨by kernel_rfl, by kernel_rfl, by kernel_rfl, by kernel_rfl, cl_ok P .ref⟩
theorem sub_name (P : Params) : ∀ c : Cl, isK c (.name "") = false → subIn (KK P) (.ref 171) c.v = some false ∧ (Value.ref 171 == c.v) = false
  | .bool, _ => ⟨by kernel_rfl, rfl⟩ | .int, _ => ⟨by kernel_rfl, rfl⟩ | .dec, _ => ⟨by kernel_rfl, rfl⟩ | .name, h => by cases h | .string, _ => ⟨by kernel_rfl, rfl⟩ | .list, _ => ⟨by kernel_rfl, rfl⟩ | .dict, _ => ⟨by kernel_rfl, rfl⟩ | .stream, _ => ⟨by kernel_rfl, rfl⟩ | .ref, _ => ⟨by kernel_rfl, rfl⟩
theorem sub_stream (P : Params) : ∀ c : Cl, isK c (.stream .null #[]) = false → subIn (KK P) (.ref 214) c.v = some false ∧ (Value.ref 214 == c.v) = false
  | .bool, _ => ⟨by kernel_rfl, rfl⟩ | .int, _ => ⟨by kernel_rfl, rfl⟩ | .dec, _ => ⟨by kernel_rfl, rfl⟩ | .stream, h => by cases h | .string, _ => ⟨by kernel_rfl, rfl⟩ | .list, _ => ⟨by kernel_rfl, rfl⟩ | .dict, _ => ⟨by kernel_rfl, rfl⟩ | .name, _ => ⟨by kernel_rfl, rfl⟩ | .ref, _ => ⟨by kernel_rfl, rfl⟩
theorem sub_ref (P : Params) : ∀ c : Cl, isK c (.ref 0 0) = false → subIn (KK P) (.ref 242) c.v = some false ∧ (Value.ref 242 == c.v) = false
  | .bool, _ => ⟨by kernel_rfl, rfl⟩ | .int, _ => ⟨by kernel_rfl, rfl⟩ | .dec, _ => ⟨by kernel_rfl, rfl⟩ | .ref, h => by cases h | .string, _ => ⟨by kernel_rfl, rfl⟩ | .list, _ => ⟨by kernel_rfl, rfl⟩ | .dict, _ => ⟨by kernel_rfl, rfl⟩ | .stream, _ => ⟨by kernel_rfl, rfl⟩ | .name, _ => ⟨by kernel_rfl, rfl⟩
theorem sub_ty (P : Params) (T : String) (hT : T = "int" ∨ T = "list" ∨ T = "dict" ∨ T = "NoneType") : ∀ c : Cl, c.v ≠ .type T → subIn (KK P) (.type T) c.v = some false := by
  rcases hT with rfl | rfl | rfl | rfl <;> intro c h <;> cases c <;> first | exact absurd rfl h | kernel_rfl
section
variable {w : World} {A : Around} {E : Value → Shared → Prop} {b : Bs} {h : Heap} {tk : Nat} {h₀ : Heap} {I : Fz} {C : List Cell} {Q : Value → Shared → Prop}
theorem ii_none_F {cls : Value} (W : Wd (KK w.params) h₀) (S : St h₀ I C h) (hcl : TyT cls) (hok : TyOk (KK w.params) cls) (hne : (Value.type "NoneType" == cls) = false) (hs : subIn (KK w.params) (.type "NoneType") cls = some false)
    (q : ∀ tk', Q (.bool false) (sh b h tk')) : wpAny (model P0 w) A (call (.builtin "isinstance") [.none, cls]) Q E (sh b h tk) :=
  isF (s := sh b h tk) (P := fun _ => True) (S.Kin W) (fun M => .of_pure rfl) hne (fun M => hcl (S.Kin W)) hok hs trivial (by simp) trivial (fun p q => none_cls p q) (q _)
theorem isDic_cls {K : Type} [DecidableEq K] {knd : PySem.KeyKind P0 w K} {d : Addr} {kvs : List (K × Value)} {o : Obj} (x : DicC knd d kvs o) : o.cls = .type "dict" := let ⟨_, _, _, h, _⟩ := x; h.1
theorem iiD {n : Nat} {d : D} {v : Value} (c : Cl) (W : Wd (KK w.params) h₀) (S : St h₀ I C h) (hd : IsD w I n d v) (q : ∀ tk', Q (.bool (isK c d)) (sh b h tk')) : wpAny (model P0 w) A (call (.builtin "isinstance") [v, c.v]) Q E (sh b h tk) := by
  have X := S.Kin W
  cases n with
  | zero => exact hd.elim
  | succ n =>
  cases d with
  | null =>
    obtain rfl : v = .none := hd
    have e : isK c .null = false := by cases c <;> rfl
    rw [e] at q
    exact ii_none_F W S (cl_ty c) (cl_ok _ c) (by cases c <;> rfl) (sub_ty _ _ (by simp) c (by cases c <;> simp [Cl.v])) q
  | int i =>
    obtain ⟨t, rfl, _⟩ := hd
    by_cases e : c = .int
    · subst e; exact ii_val_T rfl (by simp) (q _)
    · have e' : isK c (.int i) = false := by cases c <;> first | rfl | exact absurd rfl e
      rw [e'] at q
      exact ii_int_F W S (cl_ty c) (cl_ok _ c) (by cases c <;> first | rfl | exact absurd rfl e) (sub_ty _ _ (by simp) c (by cases c <;> first | exact absurd rfl e | simp [Cl.v])) q
  | name s =>
    obtain ⟨x, t, rfl, hi, _⟩ := hd
    by_cases e : c = .name
    · subst e; exact ii_inst_T W S (hi.h S) (q _)
    · have e' : isK c (.name s) = false := by cases c <;> first | rfl | exact absurd rfl e
      have k := ik_name w.params
      have f := sub_name w.params c (by cases c <;> first | rfl | exact absurd rfl e)
      rw [e'] at q
      exact ii_inst_F W S (hi.h S) (cl_ty c) (cl_ok _ c) f.2 f.1 k.f1 k.f2 k.f3 k.f6 k.f7 q
  | ref i g =>
    obtain ⟨x, t, u, rfl, hi, _⟩ := hd
    by_cases e : c = .ref
    · subst e; exact ii_inst_T W S (hi.h S) (q _)
    · have e' : isK c (.ref i g) = false := by cases c <;> first | rfl | exact absurd rfl e
      have k := ik_ref w.params
      have f := sub_ref w.params c (by cases c <;> first | rfl | exact absurd rfl e)
      rw [e'] at q
      exact ii_inst_F W S (hi.h S) (cl_ty c) (cl_ok _ c) f.2 f.1 k.f1 k.f2 k.f3 k.f6 k.f7 q
  | arr l =>
    obtain ⟨x, vs, o, rfl, ho, hl, _⟩ := hd
    by_cases e : c = .list
    · subst e; exact ii_heap_T S (S.fz _ _ ho) hl.1 (q _)
    · have e' : isK c (.arr l) = false := by cases c <;> first | rfl | exact absurd rfl e
      rw [e'] at q
      exact ii_list_F W S (S.fz _ _ ho) hl.1 (cl_ty c) (cl_ok _ c) (by cases c <;> first | rfl | exact absurd rfl e) (sub_ty _ _ (by simp) c (by cases c <;> first | exact absurd rfl e | simp [Cl.v])) q
  | dict l =>
    obtain ⟨x, kvs, rfl, ⟨o, ho, hc⟩, _⟩ := hd
    by_cases e : c = .dict
    · subst e; exact ii_heap_T S (S.fz _ _ ho) (isDic_cls hc) (q _)
    · have e' : isK c (.dict l) = false := by cases c <;> first | rfl | exact absurd rfl e
      rw [e'] at q
      exact ii_dict_F W S (S.fz _ _ ho) (isDic_cls hc) (cl_ty c) (cl_ok _ c) (by cases c <;> first | rfl | exact absurd rfl e) (sub_ty _ _ (by simp) c (by cases c <;> first | exact absurd rfl e | simp [Cl.v])) q
  | stream dd oo =>
    obtain ⟨x, hv, t, rfl, hi, _⟩ := hd
    by_cases e : c = .stream
    · subst e; exact ii_inst_T W S (hi.h S) (q _)
    · have e' : isK c (.stream dd oo) = false := by cases c <;> first | rfl | exact absurd rfl e
      have k := ik_stream w.params
      have f := sub_stream w.params c (by cases c <;> first | rfl | exact absurd rfl e)
      rw [e'] at q
      exact ii_inst_F W S (hi.h S) (cl_ty c) (cl_ok _ c) f.2 f.1 k.f1 k.f2 k.f3 k.f6 k.f7 q
end
end
section -- T1
open PySem PySem.W PyProof.Rows PySem.Calls PySem.Spec
set_option maxRecDepth 100000
set_option maxHeartbeats 1000000
set_option linter.unusedVariables false
noncomputable def kindS : D → Str
  | .null => Str.ofString "null" | .int _ => Str.ofString "int" | .name _ => Str.ofString "name" | .arr _ => Str.ofString "array" | .dict _ => Str.ofString "dict" | .stream _ _ => Str.ofString "stream" | .ref _ _ => Str.ofString "ref"
noncomputable def D.isNull : D → Bool | .null => true | _ => false
section
variable {w : World} {A : Around} {E : Value → Shared → Prop} {b : Bs} {h : Heap} {tk : Nat} {h₀ : Heap} {I : Fz} {C : List Cell} {Q : Value → Shared → Prop} {n : Nat} {d : D} {v : Value}
theorem isNoneD (hd : IsD w I n d v) : (v == Value.none) = d.isNull := by
  cases n with
  | zero => exact hd.elim
  | succ n => cases d with
    | null => obtain rfl : v = .none := hd; rfl
    | int i => obtain ⟨t, rfl, _⟩ := hd; rfl
    | name s => obtain ⟨x, t, rfl, _⟩ := hd; rfl
    | ref i g => obtain ⟨x, t, u, rfl, _⟩ := hd; rfl
    | arr l => obtain ⟨x, vs, o, rfl, _⟩ := hd; rfl
    | dict l => obtain ⟨x, kvs, rfl, _⟩ := hd; rfl
    | stream a o => obtain ⟨x, hv, t, rfl, _⟩ := hd; rfl
theorem isD {n : Nat} (hd : IsD w I n d v) (q : ∀ tk', Q (.bool d.isNull) (sh b h tk')) : wpAny (model P0 w) A (compareOp .Is v .none) Q E (sh b h tk) :=
  is_none_gen (by rw [isNoneD hd]; exact q _)
theorem kind_spec (W : Wd (KK w.params) h₀) (R : Rm A 3) (S : St h₀ I C h) (hd : IsD w I n d v) (q : ∀ t h' tk', St h₀ I C h' → Q (.str (kindS d) t) (sh b h' tk')) :
    wpAny (model P0 w) A (call (.ref 253) [v]) Q E (sh b h tk) := by
  refine callP W R S (f_kind_of w.params) (binds := [(Str.ofString "value", v)]) (fun pm => BindsTo.of_eq (by kernel_rfl)) (by kernel_rfl) (by kernel_rfl) rfl rfl rfl fun A' L h₁ tk1 R' S1 => ?_
  refine wpAny_execs_cons ?_
  walk_at "g"
  refine isD hd fun tk2 => ?_
  walk_at "g"
  refine ifB (fun e => ?_) (fun e => ?_)
  · have e2 : kindS d = Str.ofString "null" := by cases d <;> first | rfl | cases e
    walk_at "g"
    exact e2 ▸ q _ _ _ S1.tail
  walk_at "g"
  refine iiD .bool W S1 hd fun tk3 => ?_
  walk_at "g"
  refine ifB (fun e => by cases d <;> cases e) (fun _ => ?_)
  walk_at "g"
  refine iiD .int W S1 hd fun tk3 => ?_
  walk_at "g"
  refine ifB (fun e => ?_) (fun e1 => ?_)
  · have e2 : kindS d = Str.ofString "int" := by cases d <;> first | rfl | cases e
    walk_at "g"
    exact e2 ▸ q _ _ _ S1.tail
  walk_at "g"
  refine iiD .dec W S1 hd fun tk3 => ?_
  walk_at "g"
  refine ifB (fun e => by cases d <;> cases e) (fun _ => ?_)
  walk_at "g"
  refine iiD .name W S1 hd fun tk3 => ?_
  walk_at "g"
  refine ifB (fun e => ?_) (fun e2 => ?_)
  · have e2 : kindS d = Str.ofString "name" := by cases d <;> first | rfl | cases e
    walk_at "g"
    exact e2 ▸ q _ _ _ S1.tail
  walk_at "g"
  refine iiD .string W S1 hd fun tk3 => ?_
  walk_at "g"
  refine ifB (fun e => by cases d <;> cases e) (fun _ => ?_)
  walk_at "g"
  refine iiD .list W S1 hd fun tk3 => ?_
  walk_at "g"
  refine ifB (fun e => ?_) (fun e3 => ?_)
  · have e2 : kindS d = Str.ofString "array" := by cases d <;> first | rfl | cases e
    walk_at "g"
    exact e2 ▸ q _ _ _ S1.tail
  walk_at "g"
  refine iiD .dict W S1 hd fun tk3 => ?_
  walk_at "g"
  refine ifB (fun e => ?_) (fun e4 => ?_)
  · have e2 : kindS d = Str.ofString "dict" := by cases d <;> first | rfl | cases e
    walk_at "g"
    exact e2 ▸ q _ _ _ S1.tail
  walk_at "g"
  refine iiD .stream W S1 hd fun tk3 => ?_
  walk_at "g"
  refine ifB (fun e => ?_) (fun e5 => ?_)
  · have e2 : kindS d = Str.ofString "stream" := by cases d <;> first | rfl | cases e
    walk_at "g"
    exact e2 ▸ q _ _ _ S1.tail
  walk_at "g"
  refine iiD .ref W S1 hd fun tk3 => ?_
  walk_at "g"
  refine ifB (fun e6 => ?_) (fun e6 => ?_)
  · have e2 : kindS d = Str.ofString "ref" := by cases d <;> first | rfl | cases e6
    walk_at "g"
    exact e2 ▸ q _ _ _ S1.tail
  · exfalso; clear S1 S q hd; cases d <;> simp_all [isK, D.isNull]
end
end
section -- E1
open PySem PySem.W PyProof.Rows PySem.Calls PySem.Spec
set_option maxRecDepth 100000
set_option linter.unusedVariables false
section
variable {w : World} {A : Around} {E : Value → Shared → Prop} {b : Bs} {h : Heap} {tk : Nat} {h₀ : Heap} {I : Fz} {C : List Cell} {Q : Value → Shared → Prop} {K : Type} [DecidableEq K] {knd : PySem.KeyKind P0 w K} {d : Addr} {kvs : List (K × Value)}
theorem St.sorted {a : Addr} {vs : List Value} {n : Nat} {out : Array Value} (S : St h₀ I C h) (hn : ∀ b o, h.get? b = some o → b ≠ a) (h1 : Heap) (hk : ∀ b o, h.get? b = some o → h1.get? b = some o) (ho : h1.get? a = some (seqObj "list" vs.toArray n)) :
    ∃ I', Le I I' ∧ ListF I' a out.toList ∧ St h₀ I' C (sortedHeap h1 a vs out) := by
  obtain ⟨e, he⟩ := sortedHeap_at (out := out) ho
  have S1 : St h₀ I ((a, ListO out) :: C) (sortedHeap h1 a vs out) := by
    refine S.fresh ?_ (fun b o q => (sortedHeap_old (hn b o q) (Heap.lt_size (hk b o q))).trans (hk b o q)) ⟨_, he, rfl, _, rfl⟩
    cases q : h.get? a with
    | none => rfl
    | some o => exact absurd rfl (hn a o q)
  obtain ⟨o, ho', S2⟩ := S1.freeze
  exact ⟨_, Add.le, ⟨o, Add.new, by simpa using ho'⟩, S2⟩
theorem sortCore (R : Rm A 3) (S : St h₀ I C h) (hd : DicF knd I d kvs) (hz : kvs.length < 64)
    (q : ∀ (h1 : Heap) (tk1 : Nat) (vs : List Value), (∀ b o, h.get? b = some o → h1.get? b = some o) → vs.length = kvs.length → (∀ (j : Nat) v, vs[j]? = some v → ∃ k x, kvs[j]? = some (k, x) ∧ knd.is k v = true) → h1.get? (h1.objs.size - 1) = some (seqObj "list" vs.toArray 0) → h.get? (h1.objs.size - 1) = none → 
      wpAny (model P0 w) A.in1.in1 (Builtin.«list.sort» ⟨[.ref (h1.objs.size - 1)], []⟩) (fun f s' => f = .done (.ret .none) ∧ Q (.ref (h1.objs.size - 1)) s') (fun _ _ => False) (sh b h1 tk1)) :
    wpAny (model P0 w) A (call (.builtin "sorted") [.ref d]) Q E (sh b h tk) := by
  have dh := hd.dh S
  obtain ⟨ep, hat⟩ := dh.2.dictAt
  refine call_function_entry kind_sorted plain_sorted entry_sorted (args_sorted1 _) ?_
  unfold Builtin.«sorted»
  refine wpAny_bind (m := checkCount "sorted" 1 1 _) (wpAny_pure ?_)
  refine wpAny_bind (kdu_collect (A := A.in1) (kdl_dict (knd := knd) (kvs := kvs) (ep := ep) dh.ns) R.hd hat (by rw [sizeLine_eq]; omega) fun h' tk acc hk hacc => ?_)
  have hl : acc.toList.length = kvs.length := by rw [Array.length_toList]; exact hacc.1
  refine wpAny_bind (wpAny_newList ?_ (by rw [hl, sizeLine_eq]; omega))
  have e1 : (h'.push { cls := .type "list", data := .seq acc.toList.toArray }).objs.size - 1 = h'.objs.size := by rw [Heap.size_push]; rfl
  have g := q (h'.push { cls := .type "list", data := .seq acc.toList.toArray }) tk acc.toList (fun b o e => Heap.get?_push_of_some _ (hk b o e)) hl (fun j v e => hacc.2 j v (by rw [← Array.getElem?_toList]; exact e))
    (by rw [e1]; exact Heap.get?_push_size _ rfl) (by
      rw [e1]
      cases z : h.get? h'.objs.size with
      | none => rfl
      | some o => exact absurd (Heap.lt_size (hk _ _ z)) (Nat.lt_irrefl _))
  rw [e1] at g
  have TI : Shared.TypeIs { (sh b h tk) with heap := h'.push { cls := .type "list", data := .seq acc.toList.toArray }, toks := tk } (.ref h'.objs.size) "list" := ⟨_, Heap.get?_push_size _ rfl, rfl⟩
  refine wpAny_bind (wpAny_holding (wpAny_call_entry slot_list_sort TI entry_list_sort (wpAny_mono g (fun f s' x => ?_) fun _ _ x => x.elim) (args_list_sort _)))
  obtain ⟨rfl, x⟩ := x
  exact ⟨_, rfl, wpAny_pure ⟨_, rfl, x⟩⟩
theorem keyStrs {vs : List Value} {kvs : List (Str × Value)} (hl : vs.length = kvs.length) (hv : ∀ (j : Nat) v, vs[j]? = some v → ∃ k x, kvs[j]? = some (k, x) ∧ (sK w).is k v = true) : StrsAre vs (kvs.map (·.1)) := by
  induction vs generalizing kvs with
  | nil => cases kvs with | nil => exact .nil | cons _ _ => cases hl
  | cons v vs ih =>
    cases kvs with
    | nil => cases hl
    | cons p kvs =>
      obtain ⟨k, x, e, hk⟩ := hv 0 v rfl
      cases e
      have : ∃ t, v = .str k t := by
        cases v <;> first | exact absurd hk Bool.false_ne_true | skip
        rename_i s t
        have e : s = k := (sK w).inj _ _ _ (strKind_is P0 w s t) hk
        exact ⟨t, by rw [e]⟩
      obtain ⟨t, rfl⟩ := this
      exact .cons k t (ih (by simpa using hl) fun j u e => hv (j + 1) u (by simpa using e))
theorem keyInts {vs : List Value} {kvs : List (Int × Value)} (hl : vs.length = kvs.length) (hv : ∀ (j : Nat) v, vs[j]? = some v → ∃ k x, kvs[j]? = some (k, x) ∧ (iK w).is k v = true) : IntsAre vs (kvs.map (·.1)) := by
  induction vs generalizing kvs with
  | nil => cases kvs with | nil => exact .nil | cons _ _ => cases hl
  | cons v vs ih =>
    cases kvs with
    | nil => cases hl
    | cons p kvs =>
      obtain ⟨k, x, e, hk⟩ := hv 0 v rfl
      cases e
      have : ∃ t, v = .int k t := by
        cases v <;> first | exact absurd hk Bool.false_ne_true | skip
        rename_i s t
        have e : s = k := (iK w).inj (.int s t) _ _ (by simp [PySem.intKind, Value.isInt]) hk
        exact ⟨t, by rw [e]⟩
      obtain ⟨t, rfl⟩ := this
      exact .cons k t (ih (by simpa using hl) fun j u e => hv (j + 1) u (by simpa using e))
theorem sortStr {kvs : List (Str × Value)} (R : Rm A 3) (S : St h₀ I C h) (hd : DicF (sK w) I d kvs) (hz : kvs.length < 64)
    (q : ∀ x vs ss I' h' tk', Le I I' → ListF I' x vs → StrsAre vs ss → ss.Perm (kvs.map (·.1)) → sortedS ss = true → St h₀ I' C h' → Q (.ref x) (sh b h' tk')) :
    wpAny (model P0 w) A (call (.builtin "sorted") [.ref d]) Q E (sh b h tk) := by
  refine sortCore R S hd hz fun h1 tk1 vs hk hl hv ho hn => ?_
  have hS := keyStrs hl hv
  refine list_sort_treeK strKind_oneLt ho hS.keysOf (fun v₁ v₂ rest e => keyKind_strs (by rw [← e]; exact hS)) (by omega) fun st' hp hs => ⟨rfl, ?_⟩
  obtain ⟨ss', h1', h2', h3'⟩ := sorted_out_str hS hp hs
  obtain ⟨I', k, l, S'⟩ := S.sorted (out := (arrOf st').map (·.2)) (fun b o e e2 => by rw [← e2, e] at hn; cases hn) h1 hk ho
  exact q _ _ ss' I' _ _ k l h1' h2' h3' S'
theorem sortInt {kvs : List (Int × Value)} (R : Rm A 3) (S : St h₀ I C h) (hd : DicF (iK w) I d kvs) (hz : kvs.length < 64) (hpw : (kvs.map (·.1)).Pairwise (· < ·))
    (q : ∀ x vs I' h' tk', Le I I' → ListF I' x vs → IntsAre vs (kvs.map (·.1)) → St h₀ I' C h' → Q (.ref x) (sh b h' tk')) :
    wpAny (model P0 w) A (call (.builtin "sorted") [.ref d]) Q E (sh b h tk) := by
  refine sortCore R S hd hz fun h1 tk1 vs hk hl hv ho hn => ?_
  have hS := keyInts hl hv
  refine list_sort_tree ho hS (by omega) fun out ns' hI hp hs => ⟨rfl, ?_⟩
  obtain ⟨I', k, l, S'⟩ := S.sorted (out := out) (fun b o e e2 => by rw [← e2, e] at hn; cases hn) h1 hk ho
  have e : ns' = kvs.map (·.1) := lks_uniq hp hs (hpw.imp fun h => Int.le_of_lt h)
  exact q _ _ I' _ _ k l (e ▸ hI) S'
end
end
section -- K1
open PySem PySem.W PyProof.Rows PySem.Calls PySem.Spec
set_option maxRecDepth 100000
set_option linter.unusedVariables false
noncomputable def okSorted : List Str := [Str.ofString "A", Str.ofString "B", Str.ofString "C", Str.ofString "Info", Str.ofString "Prev", Str.ofString "Root", Str.ofString "Size", Str.ofString "Type"]
noncomputable def idxS (x : Str) : Int := (okSorted.findIdx (· == x) : Nat)
theorem idx_ord : ∀ a ∈ okSorted, ∀ b ∈ okSorted, ltCps b.cps.toList a.cps.toList = false → idxS a ≤ idxS b := by decide +kernel
theorem idx_inj : ∀ a ∈ okSorted, ∀ b ∈ okSorted, idxS a = idxS b → a = b := by decide +kernel
theorem ok_sorted : ∀ a ∈ okKeys, a ∈ okSorted := by decide +kernel
theorem okSorted_pw : okSorted.Pairwise (fun a b => idxS a ≤ idxS b) := by decide +kernel
theorem okSorted_nd : okSorted.Nodup := by decide +kernel
theorem rising_le : ∀ (p : Str) (l : List Str), p ∈ okSorted → (∀ x ∈ l, x ∈ okSorted) → risingS p l = true → (∀ x ∈ l, idxS p ≤ idxS x) ∧ (l.map idxS).Pairwise (· ≤ ·)
  | p, [], _, _, _ => ⟨by simp, .nil⟩
  | p, x :: r, hp, hl, h => by
    have h' : (!ltCps x.cps.toList p.cps.toList && risingS x r) = true := h
    simp only [Bool.and_eq_true, Bool.not_eq_true'] at h'
    have i := rising_le x r (hl x (.head _)) (fun y hy => hl y (.tail _ hy)) h'.2
    have k : idxS p ≤ idxS x := idx_ord p hp x (hl x (.head _)) h'.1
    refine ⟨fun y hy => ?_, ?_⟩
    · rcases List.mem_cons.mp hy with rfl | hy
      · exact k
      · exact Int.le_trans k (i.1 y hy)
    · rw [List.map_cons, List.pairwise_cons]
      refine ⟨fun z hz => ?_, i.2⟩
      obtain ⟨y, hy, rfl⟩ := List.mem_map.mp hz
      exact i.1 y hy
theorem sorted_pw (l : List Str) (hl : ∀ x ∈ l, x ∈ okSorted) (h : sortedS l = true) : (l.map idxS).Pairwise (· ≤ ·) := by
  cases l with
  | nil => exact .nil
  | cons p l =>
    have i := rising_le p l (hl p (.head _)) (fun y hy => hl y (.tail _ hy)) h
    rw [List.map_cons, List.pairwise_cons]
    refine ⟨fun z hz => ?_, i.2⟩
    obtain ⟨y, hy, rfl⟩ := List.mem_map.mp hz
    exact i.1 y hy
theorem map_inj {l m : List Str} (hl : ∀ x ∈ l, x ∈ okSorted) (hm : ∀ x ∈ m, x ∈ okSorted) (e : l.map idxS = m.map idxS) : l = m := by
  induction l generalizing m with
  | nil => cases m with | nil => rfl | cons _ _ => cases e
  | cons a l ih =>
    cases m with
    | nil => cases e
    | cons c m =>
      rw [List.map_cons, List.map_cons, List.cons.injEq] at e
      rw [idx_inj a (hl a (.head _)) c (hm c (.head _)) e.1, ih (fun x hx => hl x (.tail _ hx)) (fun x hx => hm x (.tail _ hx)) e.2]
theorem sorted_eq {ss ks : List Str} (hs : sortedS ss = true) (hp : ss.Perm ks) (hn : ks.Nodup) (hk : ∀ k ∈ ks, k ∈ okSorted) : ss = okSorted.filter (· ∈ ks) := by
  have hss : ∀ x ∈ ss, x ∈ okSorted := fun x hx => hk x (hp.mem_iff.mp hx)
  have pp : ss.Perm (okSorted.filter (· ∈ ks)) := by
    refine (List.perm_ext_iff_of_nodup (hp.nodup_iff.mpr hn) (okSorted_nd.filter _)).mpr fun x => ?_
    rw [List.mem_filter, decide_eq_true_eq, hp.mem_iff]
    exact ⟨fun h => ⟨hk x h, h⟩, fun h => h.2⟩
  refine map_inj hss (fun x hx => (List.mem_filter.mp hx).1) (lks_uniq (pp.map _) (sorted_pw ss hss hs) ?_)
  exact List.pairwise_map.mpr (okSorted_pw.filter _)
inductive T where | str (s : Str) | int (i : Int) | byt (o : Array UInt8) | tup (l : List T) | lst (l : List T)
noncomputable def IsTv (I : Fz) : Nat → T → Value → Prop
  | 0, _, _ => False
  | _ + 1, .str s, v => ∃ t, v = .str s t
  | _ + 1, .int i, v => ∃ t, v = .int i t
  | _ + 1, .byt o, v => ∃ t, v = .bytes o t
  | n + 1, .tup l, v => ∃ x vs, v = .ref x ∧ TupF I x vs ∧ All2 (IsTv I n) l vs
  | n + 1, .lst l, v => ∃ x vs, v = .ref x ∧ ListF I x vs ∧ All2 (IsTv I n) l vs
theorem IsTv.le {I J : Fz} (k : Le I J) : ∀ {n : Nat} {d : T} {v : Value}, IsTv I n d v → IsTv J n d v
  | 0, _, _, x => x.elim
  | n + 1, .str s, v, x => x
  | n + 1, .int i, v, x => x
  | n + 1, .byt s, v, x => x
  | n + 1, .tup l, v, ⟨x, vs, a, b, f⟩ => ⟨x, vs, a, b.le k, f.imp fun _ _ y => IsTv.le k y⟩
  | n + 1, .lst l, v, ⟨x, vs, a, b, f⟩ => ⟨x, vs, a, b.le k, f.imp fun _ _ y => IsTv.le k y⟩
theorem IsTv.up {I : Fz} : ∀ {n : Nat} {d : T} {v : Value}, IsTv I n d v → IsTv I (n + 1) d v
  | 0, _, _, x => x.elim
  | n + 1, .str s, v, x => x
  | n + 1, .int i, v, x => x
  | n + 1, .byt s, v, x => x
  | n + 1, .tup l, v, ⟨x, vs, a, b, f⟩ => ⟨x, vs, a, b, f.imp fun _ _ y => IsTv.up y⟩
  | n + 1, .lst l, v, ⟨x, vs, a, b, f⟩ => ⟨x, vs, a, b, f.imp fun _ _ y => IsTv.up y⟩
theorem IsTv.to {I : Fz} {n m : Nat} {d : T} {v : Value} (x : IsTv I n d v) (h : n ≤ m) : IsTv I m d v := by
  induction h with
  | refl => exact x
  | step _ ih => exact ih.up
end
section -- K2
open PySem PySem.W PyProof.Rows PySem.Calls PySem.Spec
set_option maxRecDepth 100000
set_option linter.unusedVariables false
noncomputable abbrev sx (s : String) : Str := Str.ofString s
noncomputable def rowsT (l : List (Str × T)) : List T := okSorted.filterMap fun k => (l.lookup k).map fun t => .tup [.str k, t]
mutual
noncomputable def told : D → T
  | .null => .tup [.str (sx "null")]
  | .int i => .tup [.str (sx "int"), .int i]
  | .name s => .tup [.str (sx "name"), .str s]
  | .ref n g => .tup [.str (sx "ref"), .int n, .int g]
  | .arr l => .tup (.str (sx "array") :: toldL l)
  | .dict l => .tup (.str (sx "dict") :: rowsT (toldR l))
  | .stream d o => .tup [.str (sx "stream"), told d, .byt o]
noncomputable def toldL : List D → List T
  | [] => []
  | d :: r => told d :: toldL r
noncomputable def toldR : List (Str × D) → List (Str × T)
  | [] => []
  | (k, d) :: r => if d.isNull then toldR r else (k, told d) :: toldR r
end
noncomputable def nullT : T := .tup [.str (sx "null")]
noncomputable def isNullT : T → Bool | .tup [.str s] => s == sx "null" | _ => false
noncomputable def rowsU (l : List (Str × T)) : List T := okSorted.filterMap fun k => if k ∈ [sx "Size", sx "Prev"] then none else match l.lookup k with
  | none => none
  | some t => if isNullT t then none else some (.tup [.str k, t])
mutual
noncomputable def unfG (f : Int → Int → T) : D → T
  | .null => nullT
  | .int i => .tup [.str (sx "int"), .int i]
  | .name s => .tup [.str (sx "name"), .str s]
  | .ref n g => f n g
  | .arr l => .tup [.str (sx "array"), .lst (unfL f l)]
  | .dict l => .tup [.str (sx "dict"), .lst (rowsU (unfR f l))]
  | .stream d o => .tup [.str (sx "stream"), .byt o, unfG f d]
noncomputable def unfL (f : Int → Int → T) : List D → List T
  | [] => []
  | d :: r => unfG f d :: unfL f r
noncomputable def unfR (f : Int → Int → T) : List (Str × D) → List (Str × T)
  | [] => []
  | (k, d) :: r => (k, unfG f d) :: unfR f r
end
noncomputable abbrev Tab := List (Int × Int × D)
noncomputable def drf (tb : Tab) : Nat → Int → Int → T
  | 0, i, g => match tb.lookup i with | none => nullT | some p => if p.1 = g then .tup [.str (sx "far")] else nullT
  | n + 1, i, g => match tb.lookup i with | none => nullT | some p => if p.1 = g then .tup [.str (sx "to"), unfG (drf tb n) p.2] else nullT
noncomputable def unf (tb : Tab) (n : Nat) (d : D) : T := unfG (drf tb n) d
noncomputable abbrev Names := List ((Int × Int) × (Int × Int))
mutual
noncomputable def ren (nm : Names) : D → D
  | .ref i g => match nm.lookup (i, g) with | none => .null | some p => .ref p.1 p.2
  | .arr l => .arr (renL nm l)
  | .dict l => .dict (renR nm l)
  | .stream d o => .stream (ren nm d) o
  | .null => .null
  | .int i => .int i
  | .name s => .name s
noncomputable def renL (nm : Names) : List D → List D
  | [] => []
  | d :: r => ren nm d :: renL nm r
noncomputable def renR (nm : Names) : List (Str × D) → List (Str × D)
  | [] => []
  | (k, d) :: r => if (ren nm d).isNull then renR nm r else (k, ren nm d) :: renR nm r
end
noncomputable def word : D → Str
  | .dict l => match l.lookup (sx "Type") with | some (.name s) => s | _ => sx ""
  | _ => sx ""
noncomputable def single (d : D) : Bool := word d ∈ [sx "Page", sx "Pages", sx "Catalog"]
noncomputable def isPage : D → Bool
  | .dict l => match l.lookup (sx "Type") with | some (.name _) => true | _ => false
  | _ => false
-- the text that repr gives
mutual
noncomputable def shownT : T → Str
  | .str s => reprText s
  | .int i => toString i
  | .byt o => if o = #[0] then sx "b'\\x00'" else sx "b'\\x01'"
  | .tup l => tupleText (shownTs l)
  | .lst l => listText (shownTs l)
noncomputable def shownTs : List T → List Str
  | [] => []
  | t :: r => shownT t :: shownTs r
end
noncomputable def rep (d : D) : Str := shownT (told d)
noncomputable def twG : List (Str × Int × Int) → Tab → Names
  | _, [] => []
  | fs, (i, g, d) :: r => if single d then twG fs r else match fs.lookup (rep d) with
    | some p => ((i, g), p) :: twG fs r
    | none => twG (fs ++ [(rep d, i, g)]) r
noncomputable def namesOf (tb : Tab) (t : Names) : Names := tb.map fun p => ((p.1, p.2.1), (t.lookup (p.1, p.2.1)).getD (p.1, p.2.1))
noncomputable def leftOf (tb : Tab) (t : Names) : Tab := (tb.filter fun p => (t.lookup (p.1, p.2.1)).isNone).map fun p => (p.1, p.2.1, ren (namesOf tb t) p.2.2)
noncomputable def laps : Nat → Tab → D → Tab × D
  | 0, tb, tr => (tb, tr)
  | n + 1, tb, tr => if (twG [] tb).isEmpty then (tb, tr) else laps n (leftOf tb (twG [] tb)) (ren (namesOf tb (twG [] tb)) tr)
theorem toldR_look {k : Str} : ∀ {l : List (Str × D)}, (l.map (·.1)).Nodup → (toldR l).lookup k = (l.lookup k).bind fun d => if d.isNull then none else some (told d)
  | [], _ => rfl
  | (j, d) :: r, h => by
    rw [List.map_cons, List.nodup_cons] at h
    have ih := toldR_look (k := k) h.2
    rw [toldR, List.lookup_cons]
    by_cases e : k = j
    · subst e
      have hn : r.lookup k = none := by
        cases q : r.lookup k with
        | none => rfl
        | some x => exact absurd (List.mem_map.mpr ⟨(k, x), by
            clear ih h
            induction r with
            | nil => cases q
            | cons a r ih =>
              rw [List.lookup_cons] at q
              split at q
              · rename_i hh; cases q; rw [beq_iff_eq.mp hh]; exact .head _
              · exact .tail _ (ih q), rfl⟩) h.1
      rw [beq_self_eq_true]
      split
      · rename_i hd; rw [ih, hn]; simp [hd]
      · rename_i hd; rw [List.lookup_cons, beq_self_eq_true]; simp [hd]
    · have e' : (k == j) = false := by simpa using e
      rw [e']
      split
      · exact ih
      · rw [List.lookup_cons, e']; exact ih
end
section -- T2
open PySem PySem.W PyProof.Rows PySem.Calls PySem.Spec
set_option maxRecDepth 100000
set_option maxHeartbeats 1000000
set_option linter.unusedVariables false
section
variable {w : World} {A : Around} {E : Value → Shared → Prop} {b : Bs} {h : Heap} {tk : Nat} {h₀ : Heap} {I : Fz} {C : List Cell} {Q : Value → Shared → Prop} {n : Nat} {d : D} {v : Value}
noncomputable def plainD : D → Bool | .null => true | .int _ => true | .name _ => true | .ref _ _ => true | _ => false
theorem getF {x Cl : Addr} {l : List (Str × Value)} {m : Str} {v : Value} {attr : Option Value} (W : Wd (KK w.params) h₀) (S : St h₀ I C h) (i : InstF I x Cl l) (hv : l.lookup m = some v) (hh : handedIn v = true)
    (hga : findIn (KK w.params) (.ref Cl) "__getattribute__" = some (some (.builtin "object.__getattribute__"))) (hd : hasDictIn (KK w.params) Cl = true) (ha : findIn (KK w.params) (.ref Cl) m = some attr) (hn : noGet (KK w.params) attr = true)
    (q : ∀ tk', Q v (sh b h tk')) : wpAny (model P0 w) A (getAttr (.ref x) m true) Q E (sh b h tk) := getA W S (i.h S) hv hga hd ha hn hh q
theorem plain_spec {t : Tok} (W : Wd (KK w.params) h₀) (R : Rm A 3) (S : St h₀ I C h) (hd : IsD w I n d v) (hp : plainD d = true)
    (q : ∀ v' I' h' tk', Le I I' → IsTv I' 2 (told d) v' → St h₀ I' C h' → Q v' (sh b h' tk')) :
    wpAny (model P0 w) A (call (.ref 260) [.str (kindS d) t, v]) Q E (sh b h tk) := by
  refine callP W R S (f_told_plain w.params) (binds := [(Str.ofString "kind", .str (kindS d) t), (Str.ofString "value", v)]) (fun pm => BindsTo.of_eq (by kernel_rfl)) (by kernel_rfl) (by kernel_rfl) rfl rfl rfl fun A' L h₁ tk1 R' S1 => ?_
  cases n with
  | zero => exact hd.elim
  | succ n =>
  cases d with
  | arr => cases hp
  | dict => cases hp
  | stream => cases hp
  | null =>
    dsimp only [kindS] at S1
    refine wpAny_execs_cons ?_
    walk_at "g"
    refine tupN S1 (by simp) fun x I2 h2 k2 ix S2 => ?_
    exact q _ _ _ _ k2 ⟨x, _, rfl, ix, .cons ⟨_, rfl⟩ .nil⟩ S2.tail
  | int i =>
    obtain ⟨u, rfl, _⟩ := hd
    dsimp only [kindS] at S1
    refine wpAny_execs_cons ?_
    walk_at "g"
    refine tupN S1 (by simp) fun x I2 h2 k2 ix S2 => ?_
    exact q _ _ _ _ k2 ⟨x, _, rfl, ix, .cons ⟨_, rfl⟩ (.cons ⟨_, rfl⟩ .nil)⟩ S2.tail
  | name s =>
    obtain ⟨y, u, rfl, iy, _⟩ := hd
    dsimp only [kindS] at S1
    refine wpAny_execs_cons ?_
    walk_at "g"
    refine getF W S1 iy (v := .str s u) (by rfl) (by rfl) (by kernel_rfl) (by kernel_rfl) (attr := none) (by kernel_rfl) (by kernel_rfl) fun tk2 => ?_
    walk_at "g"
    refine tupN S1 (by simp) fun x I2 h2 k2 ix S2 => ?_
    exact q _ _ _ _ k2 ⟨x, _, rfl, ix, .cons ⟨_, rfl⟩ (.cons ⟨_, rfl⟩ .nil)⟩ S2.tail
  | ref i g =>
    obtain ⟨y, u, u2, rfl, iy, _⟩ := hd
    dsimp only [kindS] at S1
    refine wpAny_execs_cons ?_
    walk_at "g"
    refine getF W S1 iy (v := .int i u2) (by rfl) (by rfl) (by kernel_rfl) (by kernel_rfl) (attr := none) (by kernel_rfl) (by kernel_rfl) fun tk2 => ?_
    walk_at "g"
    refine getF W S1 iy (v := .int g u) (by rfl) (by rfl) (by kernel_rfl) (by kernel_rfl) (attr := none) (by kernel_rfl) (by kernel_rfl) fun tk3 => ?_
    walk_at "g"
    refine tupN S1 (by simp) fun x I2 h2 k2 ix S2 => ?_
    exact q _ _ _ _ k2 ⟨x, _, rfl, ix, .cons ⟨_, rfl⟩ (.cons ⟨_, rfl⟩ (.cons ⟨_, rfl⟩ .nil))⟩ S2.tail
theorem tupAdd {xa xb : Addr} {v : Value} {ws : List Value} (S : St h₀ I C h) (ha : TupF I xa [v]) (hb : TupF I xb ws) (hz : ws.length ≤ 1000)
    (q : ∀ x I' h', Le I I' → TupF I' x (v :: ws) → St h₀ I' C h' → Q (.ref x) (sh b h' tk)) : wpAny (model P0 w) A (binaryOp .Add (.ref xa) (.ref xb)) Q E (sh b h tk) := by
  have ha' := S.fz _ _ ha
  have hb' := S.fz _ _ hb
  cases ws with
  | nil =>
    exact concat_meets ⟨_, ha', rfl⟩ ⟨_, hb', rfl⟩ noFill_tuple_add seq_tuple_add PySem.F.slot_tuple_add PySem.F.entry_tuple_add (PySem.F.args_tuple_add_2 _ _)
      (tuple_addW1 xa xb #[v] #[] 0 0 none none #[] #[] (by simp) (by simp)) ⟨ha', hb', q xa I h Le.rfl ha S⟩
  | cons u ws =>
    refine concat_meets ⟨_, ha', rfl⟩ ⟨_, hb', rfl⟩ noFill_tuple_add seq_tuple_add PySem.F.slot_tuple_add PySem.F.entry_tuple_add (PySem.F.args_tuple_add_2 _ _)
      (tuple_addW2 xa xb #[v] (u :: ws).toArray 0 0 none none #[] #[] (by simp) (by simp) (by rw [sizeLine_eq]; simp at hz ⊢; omega)) ⟨ha', hb', ?_⟩
    have e : #[v] ++ (u :: ws).toArray = (v :: u :: ws).toArray := by simp
    rw [e]
    exact q _ _ _ Add.le Add.new (S.pushFz { cls := .type "tuple", data := .seq (v :: u :: ws).toArray })
theorem tupOf {xa : Addr} {vs : List Value} (S : St h₀ I C h) (ha : ListF I xa vs) (hz : vs.length ≤ 1000) (q : ∀ x I' h', Le I I' → TupF I' x vs → St h₀ I' C h' → Q (.ref x) (sh b h' tk)) : wpAny (model P0 w) A (call (.type "tuple") [.ref xa]) Q E (sh b h tk) :=
  call_tuple_list (ha.lst S) (fun h' hk => q _ _ _ Add.le Add.new ((S.ext hk).pushFz { cls := .type "tuple", data := .seq vs.toArray })) (by rw [sizeLine_eq, List.size_toArray]; omega)
end
end
section -- T3
open PySem PySem.W PyProof.Rows PySem.Calls PySem.Spec
set_option maxRecDepth 100000
set_option maxHeartbeats 1000000
set_option linter.unusedVariables false
section
variable {w : World} {A : Around} {E : Value → Shared → Prop} {b : Bs} {h : Heap} {tk : Nat} {h₀ : Heap} {I : Fz} {C : List Cell} {Q : Value → Shared → Prop} {n : Nat} {d : D} {v : Value}
noncomputable def ToldSpec (w : World) (h₀ : Heap) (n : Nat) : Prop := ∀ {A : Around} {E : Value → Shared → Prop} {b : Bs} {h : Heap} {tk : Nat} {I : Fz} {C : List Cell} {Q : Value → Shared → Prop} {d : D} {v : Value} (W : Wd (KK w.params) h₀) (R : Rm A (n + 4)) (S : St h₀ I C h) (hd : IsD w I n d v)
    (q : ∀ v' I' h' tk', Le I I' → IsTv I' (2 * n) (told d) v' → St h₀ I' C h' → Q v' (sh b h' tk')), wpAny (model P0 w) A (call (.ref 265) [v]) Q E (sh b h tk)
theorem All2.at {α β : Type} {R : α → β → Prop} : ∀ {l m} {i : Nat} {v : β}, All2 R l m → m[i]? = some v → ∃ d, l[i]? = some d ∧ R d v
  | _, _, 0, v, .cons x _, e => by simp at e; subst e; exact ⟨_, rfl, x⟩
  | _, _, i + 1, v, .cons _ y, e => y.at (by simpa using e)
theorem toldL_snoc : ∀ (l : List D) (d : D), toldL (l ++ [d]) = toldL l ++ [told d]
  | [], d => rfl
  | a :: r, d => by rw [List.cons_append, toldL, toldL, toldL_snoc r d]; rfl
theorem take_snoc {α : Type} {l : List α} {i : Nat} {d : α} (h : l[i]? = some d) : l.take (i + 1) = l.take i ++ [d] := by
  rw [List.take_add_one, h]; rfl
theorem toldL_len : ∀ l : List D, (toldL l).length = l.length
  | [] => rfl
  | _ :: r => by rw [toldL, List.length_cons, List.length_cons, toldL_len r]
theorem rows_keys {l : List (Str × D)} {kvs : List (Str × Value)} (x : All2 (fun (p : Str × D) (q : Str × Value) => p.1 = q.1 ∧ IsD w I n p.2 q.2) l kvs) : l.map (·.1) = kvs.map (·.1) := by
  induction x with
  | nil => rfl
  | cons x y ih => rw [List.map_cons, List.map_cons, x.1, ih]
theorem dic_nodup {K : Type} [DecidableEq K] {knd : PySem.KeyKind P0 w K} {x : Addr} {kvs : List (K × Value)} (hd : DicF knd I x kvs) : (kvs.map (·.1)).Nodup := let ⟨_, _, _, _, _, _, _, _, _, e⟩ := hd; e
noncomputable def rowOf (l : List (Str × D)) (k : Str) : Option T := (l.lookup k).bind fun d => if d.isNull then none else some (.tup [.str k, told d])
theorem rows_look {k : Str} : ∀ {l : List (Str × D)} {kvs : List (Str × Value)}, All2 (fun (p : Str × D) (q : Str × Value) => p.1 = q.1 ∧ IsD w I n p.2 q.2) l kvs → k ∈ l.map (·.1) → ∃ d v, l.lookup k = some d ∧ valueAt kvs k = some v ∧ IsD w I n d v
  | _, _, .nil, h => by cases h
  | (j, d) :: l, (j', v) :: kvs, .cons x y, h => by
    have e1 : j = j' := x.1
    subst e1
    by_cases e : k = j
    · subst e; exact ⟨d, v, by rw [List.lookup_cons, beq_self_eq_true], by simp [valueAt], x.2⟩
    · have h' : k ∈ l.map (·.1) := by
        rcases List.mem_cons.mp h with h | h
        · exact absurd h e
        · exact h
      obtain ⟨d', v', a, b, c⟩ := rows_look y h'
      refine ⟨d', v', ?_, ?_, c⟩
      · rw [List.lookup_cons, show (k == j) = false by simpa using e]; exact a
      · have : ¬ j = k := fun q => e q.symm
        unfold valueAt at b ⊢
        rw [List.find?_cons, show decide ((j, v).1 = k) = false by simpa using this]; exact b
theorem look_mem {α β : Type} [BEq α] [LawfulBEq α] {k : α} {d : β} : ∀ {l : List (α × β)}, l.lookup k = some d → k ∈ l.map (·.1)
  | (j, x) :: r, h => by
    rw [List.lookup_cons] at h
    split at h
    · rename_i e; rw [beq_iff_eq.mp e]; exact .head _
    · exact .tail _ (look_mem h)
theorem fm_congr {α β : Type} {f g : α → Option β} : ∀ {l : List α}, (∀ k ∈ l, f k = g k) → l.filterMap f = l.filterMap g
  | [], _ => rfl
  | a :: r, h => by rw [List.filterMap_cons, List.filterMap_cons, h a (.head _), fm_congr fun k hk => h k (.tail _ hk)]
theorem handD (hd : IsD w I n d v) : handedIn v = true := by
  cases n with
  | zero => exact hd.elim
  | succ n => cases d with
    | null => obtain rfl : v = .none := hd; rfl
    | int i => obtain ⟨t, rfl, _⟩ := hd; rfl
    | name s => obtain ⟨x, t, rfl, _⟩ := hd; rfl
    | ref i g => obtain ⟨x, t, u, rfl, _⟩ := hd; rfl
    | arr l => obtain ⟨x, vs, o, rfl, _⟩ := hd; rfl
    | dict l => obtain ⟨x, kvs, rfl, _⟩ := hd; rfl
    | stream a o => obtain ⟨x, hv, t, rfl, _⟩ := hd; rfl
theorem subD {K : Type} [DecidableEq K] {knd : PySem.KeyKind P0 w K} {x : Addr} {kvs : List (K × Value)} {k : K} {key v : Value} {value slice : Expr} (hd : DicF knd I x kvs) (S : St h₀ I C h) (hk : knd.is k key = true) (hv : valueAt kvs k = some v) (q : ∀ tk', Q v (sh b h tk'))
    (hs : subscripted slice false (.ref x) key = operate [.ref x, key] (getItem (.ref x) key) := by with_unfolding_all rfl) :
    wpAny (model P0 w) A (subscriptTail value slice (.ref x) key) Q E (sh b h tk) := by
  have dh := hd.dh S
  obtain ⟨o, ho, hc⟩ := hd
  exact tail_any (T := "dict") ⟨o, S.fz _ _ ho, isDic_cls hc⟩ slot_dict_getitem.lookup (dGet dh hk hv q) hs
theorem isNotD {n : Nat} {v : Value} (hd : IsD w I n d v) (q : Q (.bool (!d.isNull)) (sh b h tk)) : wpAny (model P0 w) A (compareOp .IsNot v .none) Q E (sh b h tk) :=
  isnot_none_gen (by rw [isNoneD hd]; exact q)
theorem told_spec (n : Nat) : ToldSpec w h₀ n := by
  induction n with
  | zero => intro A E b h tk I C Q d v W R S hd q; exact hd.elim
  | succ n ih =>
    intro A E b h tk I C Q d v W R S hd q
    refine callF (binds := [(Str.ofString "value", v)]) (lo := []) (cl := fun L => [(Str.ofString "value", L + 1)]) (cs := fun L => [(L + 1, v)])
      W R S (f_told w.params) (fun pm => BindsTo.of_eq (by kernel_rfl)) (by kernel_rfl) (by decide +kernel) (fun L => by kernel_rfl) (by kernel_rfl) (fun L => by kernel_rfl) rfl rfl rfl fun A' L I1 h1 tk1 R' k1 hcs S1 => ?_
    have c1 : CellF I1 (L + 1) v := hcs (L + 1, v) (by simp)
    clear hcs
    replace hd := hd.le k1
    refine wpAny_execs_cons ?_
    walk_at "g"
    walk_at "k"
    refine kind_spec W (R'.less (by omega)) S1 hd fun t h2 tk2 S2 => ?_
    clear S1
    walk_at "s"; intro h3 tk3 S3; clear S2
    by_cases hp : plainD d = true
    · cases d with
      | arr => cases hp
      | dict => cases hp
      | stream => cases hp
      | _ =>
        have S4 := S3
        dsimp only [kindS] at S4
        walk_at "g"
        walk_at "k"
        refine plain_spec W (R'.less (by omega)) S3 hd hp fun v' I2 h4 tk4 k2 hv S5 => ?_
        exact q _ _ _ _ (k1.trans k2) (hv.to (by omega)) S5.tail
    cases d with
    | null => exact absurd rfl hp
    | int => exact absurd rfl hp
    | name => exact absurd rfl hp
    | ref => exact absurd rfl hp
    | arr l =>
      dsimp only [kindS] at S3
      walk_at "g"
      refine tupN S3 (by simp) fun x I2 h4 k2 ix S4 => ?_
      clear S3
      walk_at "g"
      obtain ⟨xl, vs, ol, rfl, hol, hlo, hal, hlen⟩ := hd
      refine compF (h₀ := h₀) (cl := []) R'.hd (by kernel_rfl) (by kernel_rfl) rfl (by kernel_rfl) (by kernel_rfl) fun HP hHP => ?_
      replace c1 := c1.le k2
      walk_at "g"
      refine itList S4 (k2 _ _ hol) hlo fun it h5 tk5 N HI S5 => ?_
      refine hHP ⟨it, I2, I2, _, _, N, h5, tk5, _, b, fun i I' ys C' => All2 (IsTv I' (2 * n)) (toldL (l.take i)) ys ∧ C' = (L, Loc [(Str.ofString "kind", .str (Str.ofString "array") t)]) :: C, rfl, rfl, HI, by rw [List.size_toArray, ← hal.len]; omega, Le.rfl, S5, ⟨.nil, rfl⟩, ?_, ?_⟩
      · rintro i I' ys C' Lc acc h tk v hi ⟨hys, rfl⟩ k3 hv S6 Nx hNx
        obtain ⟨d, hd1, hd2⟩ := hal.at (by simpa using hv)
        refine wpAny_tests_nil ?_
        rw [if_pos rfl]
        walk_at "g"
        walk_at "k"
        refine ih W (R'.less (by omega)) S6 (hd2.le (k2.trans k3)) fun v' I3 h6 tk6 k4 hv' S7 => ?_
        refine hNx ⟨I3, _, h6, tk6, rfl, k4, ⟨?_, rfl⟩, S7⟩
        rw [take_snoc hd1, toldL_snoc]
        exact (hys.imp fun _ _ y => y.le k4).snoc hv'
      · rintro I' ys C' acc h tk ⟨hys, rfl⟩ k3 S6
        walk_at "g"
        obtain ⟨I3, k4, hl3, S7⟩ := S6.frzL
        rw [show l.take vs.toArray.size = l from List.take_of_length_le (by rw [List.size_toArray, ← hal.len]; exact Nat.le_refl _)] at hys
        refine tupOf S7 hl3 (by rw [← hys.len, toldL_len]; omega) fun x2 I4 h6 k5 ix2 S8 => ?_
        walk_at "g"
        refine tupAdd S8 ((ix.le (k3.trans k4)).le k5) ix2 (by rw [← hys.len, toldL_len]; omega) fun x3 I5 h7 k6 ix3 S9 => ?_
        have kk : Le I' I5 := k4.trans (k5.trans k6)
        exact q _ _ _ _ (k1.trans (k2.trans (k3.trans kk))) ⟨x3, _, rfl, ix3, .cons ⟨_, rfl⟩ (hys.imp fun _ _ y => IsTv.to (m := 2 * n + 1) (y.le kk) (by omega))⟩ S9.tail
    | dict l =>
      dsimp only [kindS] at S3
      walk_at "g"
      refine tupN S3 (by simp) fun x I2 h4 k2 ix S4 => ?_
      clear S3
      walk_at "g"
      obtain ⟨xd, kvs, rfl, hdf, hal, hlen, hok⟩ := hd
      refine compF (h₀ := h₀) (cl := [(Str.ofString "value", L + 1)]) R'.hd (by kernel_rfl) (by kernel_rfl) rfl (by kernel_rfl) (by kernel_rfl) fun HP hHP => ?_
      replace c1 := c1.le k2
      walk_at "g"
      refine sortStr (R'.less (by omega)) S4 (hdf.le k2) (by rw [← hal.len]; omega) fun xs vs ss I3 h5 tk5 k3 hls hss hperm hsort S5 => ?_
      clear S4
      obtain ⟨ol, hol, hlo⟩ := hls
      refine itList S5 hol hlo fun it h6 tk6 N HI S6 => ?_
      have hnd : (l.map (·.1)).Nodup := rows_keys hal ▸ dic_nodup hdf
      have hse : ss = okSorted.filter (· ∈ l.map (·.1)) := by
        rw [rows_keys hal]
        exact sorted_eq hsort hperm (dic_nodup hdf) fun k hk => by
          rw [← rows_keys hal] at hk
          obtain ⟨p, hp, rfl⟩ := List.mem_map.mp hk
          exact ok_sorted _ (hok p hp).1
      refine hHP ⟨it, I3, I3, _, _, N, h6, tk6, _, b, fun i I' ys C' => All2 (IsTv I' (2 * n + 1)) ((ss.take i).filterMap (rowOf l)) ys ∧ C' = (L, Loc [(Str.ofString "kind", .str (Str.ofString "dict") t)]) :: C, rfl, rfl, HI, by rw [List.size_toArray, StrsAre.len_eq hss, hperm.length_eq, List.length_map, ← hal.len]; omega, Le.rfl, S6, ⟨.nil, rfl⟩, ?_, ?_⟩
      · rintro i I' ys C' Lc acc h tk v hi ⟨hys, rfl⟩ k4 hv S7 Nx hNx
        obtain ⟨y, ty, rfl, hsy⟩ := hss.item i v (by simpa using hv)
        have hy : y ∈ l.map (·.1) := by rw [rows_keys hal]; exact hperm.mem_iff.mp (List.mem_of_getElem? hsy)
        obtain ⟨d, u, e1, e2, e3⟩ := rows_look hal hy
        have kk : Le I1 I' := k2.trans (k3.trans k4)
        replace c1 := c1.le (k3.trans k4)
        refine wpAny_tests_one ?_
        walk_at "g"
        refine subD (hdf.le kk) S7 (strKind_is P0 w y ty) e2 fun tk7 => ?_
        walk_at "g"
        refine isNotD (e3.le kk) ?_
        walk_at "g"
        refine ifB (fun hn => ?_) (fun hn => ?_)
        · walk_at "g"
          refine subD (hdf.le kk) S7 (strKind_is P0 w y ty) e2 fun tk8 => ?_
          walk_at "g"
          walk_at "k"
          refine ih W (R'.less (by omega)) S7 (e3.le kk) fun v' I5 h6 tk6 k5 hv' S8 => ?_
          walk_at "g"
          refine tupN S8 (by simp) fun xt I6 h7 k6 ixt S9 => ?_
          refine hNx ⟨I6, _, h7, _, rfl, k5.trans k6, ⟨?_, rfl⟩, S9⟩
          rw [take_snoc hsy, List.filterMap_append]
          have : rowOf l y = some (.tup [.str y, told d]) := by unfold rowOf; rw [e1]; simp at hn; simp [hn]
          simp only [List.filterMap_cons, this, List.filterMap_nil]
          exact (hys.imp fun _ _ z => z.le (k5.trans k6)).snoc ⟨xt, _, rfl, ixt, .cons (by obtain ⟨z, hz⟩ : ∃ z, 2 * n = z + 1 := ⟨2 * n - 1, by cases n with | zero => exact e3.elim | succ n => omega⟩; rw [hz]; exact ⟨_, rfl⟩) (.cons (hv'.le k6) .nil)⟩
        · refine hNx ⟨I', _, h, _, rfl, Le.rfl, ⟨?_, rfl⟩, S7⟩
          rw [take_snoc hsy, List.filterMap_append]
          have : rowOf l y = none := by unfold rowOf; rw [e1]; simp at hn; simp [hn]
          simp [this]; exact hys
      · rintro I' ys C' acc h tk ⟨hys, rfl⟩ k4 S7
        rw [show ss.take vs.toArray.size = ss from List.take_of_length_le (by rw [List.size_toArray, StrsAre.len_eq hss]; exact Nat.le_refl _)] at hys
        have hrow : ss.filterMap (rowOf l) = rowsT (toldR l) := by
          rw [hse, List.filterMap_filter]
          unfold rowsT
          refine fm_congr fun k hk => ?_
          rw [toldR_look hnd]
          unfold rowOf
          split
          · cases q : l.lookup k with
            | none => rfl
            | some d => simp; split <;> simp_all
          · rename_i hk2
            have : l.lookup k = none := by
              cases q : l.lookup k with
              | none => rfl
              | some d => exact absurd (decide_eq_true (look_mem q)) hk2
            rw [this]; rfl
        walk_at "g"
        obtain ⟨I4, k5, hl3, S8⟩ := S7.frzL
        refine tupOf S8 hl3 (by rw [← hys.len]; exact Nat.le_trans (List.length_filterMap_le ..) (by rw [hperm.length_eq, List.length_map, ← hal.len]; omega)) fun x2 I5 h6 k6 ix2 S9 => ?_
        walk_at "g"
        refine tupAdd S9 ((ix.le (k3.trans (k4.trans k5))).le k6) ix2 (by rw [← hys.len]; exact Nat.le_trans (List.length_filterMap_le ..) (by rw [hperm.length_eq, List.length_map, ← hal.len]; omega)) fun x3 I6 h7 k7 ix3 S10 => ?_
        have kk : Le I' I6 := k5.trans (k6.trans k7)
        rw [hrow] at hys
        exact q _ _ _ _ (k1.trans (k2.trans (k3.trans (k4.trans kk)))) ⟨x3, _, rfl, ix3, .cons ⟨_, rfl⟩ (hys.imp fun _ _ y => y.le kk)⟩ S10.tail
    | stream d o =>
      dsimp only [kindS] at S3
      obtain ⟨y, hv, u, rfl, iy, hh, ⟨ld, hld⟩, ho⟩ := hd
      walk_at "g"
      refine getF W S3 iy (v := hv) (by rfl) (handD hh) (by kernel_rfl) (by kernel_rfl) (attr := none) (by kernel_rfl) (by kernel_rfl) fun tk4 => ?_
      walk_at "g"
      walk_at "k"
      refine ih W (R'.less (by omega)) S3 hh fun v' I2 h4 tk5 k2 hv' S4 => ?_
      clear S3
      replace c1 := c1.le k2
      walk_at "g"
      refine getF W S4 (iy.le k2) (v := .bytes o u) (by rfl) (by rfl) (by kernel_rfl) (by kernel_rfl) (attr := none) (by kernel_rfl) (by kernel_rfl) fun tk6 => ?_
      walk_at "g"
      refine bytesCopy ?_
      walk_at "g"
      refine tupN S4 (by simp) fun x I3 h5 k3 ix S5 => ?_
      have hz : ∃ z, 2 * n + 1 = z + 1 := ⟨2 * n, rfl⟩
      exact q _ _ _ _ (k1.trans (k2.trans k3)) ⟨x, _, rfl, ix, .cons ⟨_, rfl⟩ (.cons (IsTv.to (m := 2 * n + 1) (hv'.le k3) (by omega)) (.cons ⟨_, rfl⟩ .nil))⟩ S5.tail
end
end
section -- E2
open PySem PySem.W PyProof.Rows PySem.Calls PySem.Spec
set_option maxRecDepth 100000
set_option linter.unusedVariables false
theorem list_keys : typeLookup (.type "list") "keys" = pure none := am_miss_of_fast (by kernel_rfl)
theorem noKeys {prog : Program} {w : World} {A : Around} {E : Value → Shared → Prop} {s : Shared} {a : Addr} {o : Obj} {xs : Array Value} {k : Nat} {Q : Option Value → Shared → Prop}
    (hx : s.heap.get? a = some o) (hc : o.cls = .type "list") (hdat : o.data = .seq xs k) (hd : o.dict = none) (hA : A.handled = none)
    (q : ∀ h' tk, (∀ b o, s.heap.get? b = some o → h'.get? b = some o) → Q none { s with heap := h', toks := tk }) : wpAny (model prog w) A (getAttr? (.ref a) "keys") Q E s := by
  obtain ⟨c, dct, dat, sl⟩ := o
  simp only at hc hdat hd
  subst hc hdat hd
  obtain ⟨hp, g, d, tk, os⟩ := s
  have hT : ∀ tk', (⟨hp, g, d, tk', os⟩ : Shared).TypeIs (.ref a) "list" := fun _ => ⟨_, hx, rfl⟩
  have f1 := sub_AttributeError
  have f3 := F.slot_list_getattribute.lookup
  have f4 := F.slot_list_getattribute.bind (.ref a)
  have f5 := am_list_getattr_none
  unfold getAttr? getAttrBy? getAttrBy
  repeat (any_goals (first | assumption | exact hT _ | ((with_reducible show wpAny _ _ (call (Value.builtin "list.__getattribute__") _ _) _ _ _); refine call_meets F.slot_list_getattribute (hT _) am_entry_list_getattribute (F.args_list_getattribute_2 _ _) (meets_getattribute_miss_list a xs k sl "keys" _ list_keys (by decide +kernel) (by decide +kernel)) ⟨hx, hA, fun h' tk' e hx' => ?_⟩) | wp_step))
  obtain ⟨t', u', he⟩ := hx'.there
  show wpAny _ _ (getattributeRaised _ _ _ _ _ _ _) _ _ _
  unfold getattributeRaised
  repeat (any_goals (first | assumption | wp_step))
  exact q _ _ fun b o e => hx'.keeps b o e
theorem nd_take {K β : Type} : ∀ {ps : List (K × β)} {i : Nat} {k : K} {u : β}, (ps.map (·.1)).Nodup → ps[i]? = some (k, u) → ∀ p ∈ ps.take i, p.1 ≠ k
  | [], i, k, u, _, e => by simp at e
  | a :: r, 0, k, u, _, _ => by simp
  | a :: r, i + 1, k, u, nd, e => by
    rw [List.map_cons, List.nodup_cons] at nd
    intro p hp q
    rcases List.mem_cons.mp hp with rfl | hp
    · exact nd.1 (q ▸ List.mem_map.mpr ⟨(k, u), List.mem_of_getElem? (by simpa using e), rfl⟩)
    · exact nd_take nd.2 (by simpa using e) p hp q
theorem ent_upd : entryFor table "dict.update.loop" = some Builtin.«dict.update.loop» := by first | exact entryFor_of_fast (by kernel_rfl) | exact entryFor_of_tree (by kernel_rfl)
theorem plain_upd : plainId "dict.update.loop" = true := by decide +kernel
section
variable {w : World} {A : Around} {E : Value → Shared → Prop} {b : Bs} {h : Heap} {tk : Nat} {h₀ : Heap} {I I₁ : Fz} {C : List Cell} {Q : Value → Shared → Prop} {n : Nat} {d it : Addr}
theorem pairItems_tup {x : Addr} {vs : List Value} {Q : List Value → Shared → Prop} (S : St h₀ I C h) (ht' : TupF I x vs) (q : Q vs (sh b h tk)) : wpAny (model P0 w) A (Builtin.Dict.pairItems (.ref x)) Q E (sh b h tk) := by
  have ho := S.fz _ _ ht'
  unfold Builtin.Dict.pairItems
  refine wpAny_bind (wpAny_typeOf (T := "tuple") ⟨_, ho, rfl⟩ ?_)
  refine bm_if_true (by decide) ?_
  refine wpAny_bind (wpAny_bind ?_)
  show wpAny _ _ (load x >>= _) _ _ _
  refine wpAny_bind (wpAny_load ho ?_)
  exact wpAny_pure (wpAny_pure (wpAny_pure q))
theorem upd_loop {ps : List (Str × Value)} {P : Nat → Value → Prop} {N : Nat → Obj → Prop} {R : Result → Shared → Prop} (HI : Iter w I₁ it n P N) (hA : A.handled = none) (hP : ∀ i v, P i v → ∃ t k tk u, v = .ref t ∧ ps[i]? = some (k, u) ∧ TupF I t [.str k tk, u]) (hle : Le I₁ I)
    (hn : ps.length = n) (hz : n ≤ 1000) (nd : (ps.map (·.1)).Nodup) (hR : ∀ h' tk', St h₀ I ((d, DicC (sK w) d ps) :: C) h' → R (.ok (.ret .none)) (sh b h' tk')) :
    ∀ (k i : Nat) (h : Heap) (tk : Nat), n - i = k → i ≤ n → St h₀ I ((d, DicC (sK w) d (ps.take i)) :: (it, N i) :: C) h → codeAny (model P0 w) A (.builtin "dict.update.loop" ⟨[.ref d, .ref it, rawInt i, .none], []⟩) R (sh b h tk) := by
  intro k
  induction k with
  | zero =>
    intro i h tk hk hi S
    obtain rfl : i = n := by omega
    refine codeAny_builtin ent_upd ?_
    rw [Around.under_plainId plain_upd _]
    show wpAny _ A.in1 (pyNext (.ref it) >>= _) _ _ _
    refine wpAny_bind (HI.over hA hle S fun h' tk' S' => ?_)
    show wpAny _ _ (Builtin.Dict.addKeywords d [] >>= _) _ _ _
    refine wpAny_bind (wpAny_pure (wpAny_pure (hR h' tk' ?_)))
    rw [List.take_of_length_le (by omega)] at S'
    exact S'
  | succ k ih =>
    intro i h tk hk hi S
    refine codeAny_builtin ent_upd ?_
    rw [Around.under_plainId plain_upd _]
    show wpAny _ A.in1 (pyNext (.ref it) >>= _) _ _ _
    refine wpAny_bind (HI.next hA hle (by omega) S fun v h' tk' hPv S' => ?_)
    obtain ⟨t, ky, tky, u, rfl, hps, ht⟩ := hP i v hPv
    refine wpAny_bind (wpAny_holding ?_)
    refine wpAny_bind (wpAny_tryCatch (pairItems_tup S' ht ?_))
    show wpAny _ _ (holding _ (dictSet d (.str ky tky) u)) _ _ _
    refine wpAny_holding ?_
    have dh := DicH.ofC S'.head
    refine wpAny_dictSet_pairs (knd := sK w) (k := ky) (strKind_is P0 w ky tky) dh.2 (fun h2 hd hs => ?_) (by rw [sizeLine_eq]; have := List.length_take_le i ps; omega)
    refine wpAny_pure ⟨plainId_quiet plain_upd _, ih (i + 1) h2 _ (by omega) (by omega) ?_⟩
    have e : stored (ps.take i) ky u = ps.take (i + 1) := by
      rw [take_snoc hps]
      exact stored_new (nd_take nd hps)
    rw [← e]
    exact S'.same hs.extBut (let ⟨o, e, y⟩ := Heap.dictOf_iff.mp hd; ⟨o, e, dh.1, y⟩)
theorem dictPairs {l : Addr} {vs : List Value} {ps : List (Str × Value)} (W : Wd (KK w.params) h₀) (hA : A.handled = none) (S : St h₀ I C h) (hl : PLF I l vs) (hvs : All2 (fun (p : Str × Value) v => ∃ t tk, v = .ref t ∧ TupF I t [.str p.1 tk, p.2]) ps vs)
    (hz : ps.length ≤ 1000) (nd : (ps.map (·.1)).Nodup) (q : ∀ d h' tk', St h₀ I ((d, DicC (sK w) d ps) :: C) h' → Q (.ref d) (sh b h' tk')) : wpAny (model P0 w) A (call (.type "dict") [.ref l]) Q E (sh b h tk) := by
  have S1 : St h₀ I ((h.objs.size, DicC (sK w) h.objs.size []) :: C) (h.push { cls := .type "dict", data := .dict #[] }) := S.push ⟨big W S, by
    obtain ⟨o, e, x⟩ := Heap.dictOf_iff.mp (Heap.DictOf.new (knd := sK w) h)
    rw [Heap.get?_push_size _ rfl] at e; cases e; exact x⟩ rfl
  refine callType_codes (Q₁ := fun obj s₁ => obj = .ref h.objs.size ∧ s₁ = sh b (h.push { cls := .type "dict", data := .dict #[] }) tk) F.kt_called_dict (F.kt_typeCall_dict_1 _) F.entry_dict_init (kt_code_dict_new _ ⟨rfl, rfl⟩) ?_
  rintro obj s₁ ⟨rfl, rfl⟩
  have dh := DicH.ofC S1.head
  have TI : Shared.TypeIs (sh b (h.push { cls := .type "dict", data := .dict #[] }) tk) (.ref h.objs.size) "dict" := ⟨_, Heap.get?_push_size _ rfl, rfl⟩
  refine ⟨TI, F.args_dict_init_2 _ _, ?_⟩
  unfold Builtin.«dict.__init__»
  refine wpAny_bind ?_
  unfold Builtin.Dict.selfAndRest
  refine wpAny_bind (wpAny_notOrdered_dict TI ?_)
  show wpAny _ _ (pure (h.objs.size, [Value.ref l])) _ _ _
  refine wpAny_pure ?_
  show wpAny _ _ (Builtin.Dict.updateFrom "dict.__init__" h.objs.size (.ref l) [] .none) _ _ _
  unfold Builtin.Dict.updateFrom
  obtain ⟨o, ho, nn, rfl⟩ := hl
  have ho' := S1.fz _ _ ho
  refine wpAny_bind (wpAny_typeOf (T := "list") ⟨_, ho', rfl⟩ ?_)
  refine bm_if_true (by decide) ?_
  refine wpAny_bind (noKeys ho' rfl rfl rfl hA fun h2 tk2 hk2 => ?_)
  refine bm_if_true rfl ?_
  refine wpAny_bind (wpAny_rule ?_)
  have S2 := S1.ext hk2
  refine wpAny_bind (itList (b := b) S2 ho ⟨rfl, _, rfl⟩ fun it h3 tk3 N HI S3 => ?_)
  have hlen : ps.length = vs.toArray.size := by rw [List.size_toArray]; exact hvs.len
  refine wpAny_pure ⟨plainId_quiet plain_upd _, upd_loop (A := A.in1) (R := wants (fun r s₂ => r = Value.none ∧ Q (Value.ref h.objs.size) s₂) E) (ps := ps) HI hA (fun i v hv => ?_) Le.rfl hlen (by omega) nd (fun h4 tk4 S4 => ⟨rfl, q _ h4 tk4 S4⟩) vs.toArray.size 0 h3 tk3 (by omega) (by omega) S3.swap⟩
  obtain ⟨p, hp, t, tk', rfl, ht⟩ := hvs.at (by simpa using hv)
  exact ⟨t, p.1, tk', p.2, rfl, hp, ht⟩
end
end
section -- N1
open PySem PySem.W PyProof.Rows PySem.Calls PySem.Spec
set_option maxRecDepth 100000
set_option linter.unusedVariables false
noncomputable abbrev pK (w : World) : PySem.HeapKind P0 w (List Int) := PySem.tupleKind (iK w)
noncomputable abbrev PX := List (List Int × Addr × Value)
noncomputable def KeyF (w : World) (I : Fz) (ks : List Int) (a : Addr) : Prop := ∃ vs, TupF I a vs ∧ PySem.ItemsAre (iK w) ks vs
theorem KeyF.le {w : World} {I J : Fz} {ks : List Int} {a : Addr} (x : KeyF w I ks a) (k : Le I J) : KeyF w J ks a := let ⟨vs, a, b⟩ := x; ⟨vs, a.le k, b⟩
noncomputable def PairF (I : Fz) (a : Addr) (p : Int × Int) : Prop := ∃ t u, TupF I a [.int p.1 t, .int p.2 u]
theorem PairF.le {I J : Fz} {a : Addr} {p : Int × Int} (x : PairF I a p) (k : Le I J) : PairF J a p := let ⟨t, u, a⟩ := x; ⟨t, u, a.le k⟩
theorem PairF.key {w : World} {I : Fz} {a : Addr} {p : Int × Int} (x : PairF I a p) : KeyF w I [p.1, p.2] a :=
  let ⟨t, u, a⟩ := x; ⟨_, a, .cons (by simp [PySem.intKind, Value.isInt]) (.cons (by simp [PySem.intKind, Value.isInt]) .nil)⟩
noncomputable def PtO (w : World) (d : Addr) (xs : PX) : Obj → Prop := fun o => d ≠ sysModules ∧ ∃ es ep, o.ExactDict ∧ o.data = .dict es ep ∧ es.toList = xs.map (entryOfKey (pK w)) ∧ (xs.map (·.1)).Nodup
noncomputable def NmR (w : World) (I : Fz) (nm : Names) (xs : PX) : Prop := All2 (fun (p : (Int × Int) × (Int × Int)) (x : List Int × Addr × Value) => x.1 = [p.1.1, p.1.2] ∧ KeyF w I x.1 x.2.1 ∧ ∃ a, x.2.2 = .ref a ∧ PairF I a p.2) nm xs
theorem NmR.le {w : World} {I J : Fz} {nm : Names} {xs : PX} (x : NmR w I nm xs) (k : Le I J) : NmR w J nm xs := x.imp fun _ _ ⟨a, b, c, d, e⟩ => ⟨a, b.le k, c, d, e.le k⟩
noncomputable def NmF (w : World) (I : Fz) (d : Addr) (nm : Names) : Prop := ∃ o xs, I d o ∧ PtO w d xs o ∧ NmR w I nm xs
theorem NmF.le {w : World} {I J : Fz} {d : Addr} {nm : Names} (x : NmF w I d nm) (k : Le I J) : NmF w J d nm := let ⟨o, xs, a, b, c⟩ := x; ⟨o, xs, k _ _ a, b, c.le k⟩
theorem NmR.at {w : World} {I : Fz} {i g : Int} : ∀ {nm : Names} {xs : PX}, NmR w I nm xs → (nm.lookup (i, g) = none ∧ atKey xs [i, g] = none) ∨ ∃ p ka a, nm.lookup (i, g) = some p ∧ atKey xs [i, g] = some (ka, .ref a) ∧ PairF I a p
  | _, _, .nil => .inl ⟨rfl, rfl⟩
  | (q, p) :: nm, x :: xs, .cons h t => by
    obtain ⟨h1, h2, a, h3, h4⟩ := h
    by_cases e : (i, g) = q
    · subst e
      refine .inr ⟨p, x.2.1, a, by rw [List.lookup_cons, beq_self_eq_true], ?_, h4⟩
      have : decide (x.1 = [i, g]) = true := by simpa using h1
      unfold atKey
      rw [List.find?_cons, this]
      show some x.2 = _
      rw [← h3]
    · have e1 : ((i, g) == q) = false := beq_eq_false_iff_ne.mpr e
      have e2 : decide (x.1 = [i, g]) = false := by
        rw [h1]
        simp only [decide_eq_false_iff_not]
        intro z
        simp at z
        exact e (Prod.ext z.1.symm z.2.symm)
      unfold atKey
      rw [List.lookup_cons, e1, List.find?_cons, e2]
      exact NmR.at t
section
variable {w : World} {A : Around} {E : Value → Shared → Prop} {b : Bs} {h h' : Heap} {tk : Nat} {h₀ : Heap} {I : Fz} {C : List Cell} {n : Nat} {d a : Addr} {xs : PX} {nm : Names} {c : Cell}
theorem KeyF.is {ks : List Int} (x : KeyF w I ks a) (S : St h₀ I C h) : (pK w).is h ks a := let ⟨vs, t, i⟩ := x; ⟨_, _, _, S.fz _ _ t, rfl, rfl, by simpa using i⟩
theorem pt_of {o : Obj} (S : St h₀ I C h) (ho : h.get? d = some o) (p : PtO w d xs o) (r : NmR w I nm xs) : h.DictOfH (pK w) d xs := by
  obtain ⟨_, es, ep, a1, a2, a3, a4⟩ := p
  refine ⟨o, es, ep, ho, a1, a2, a3, fun x hx => ?_, a4⟩
  obtain ⟨i, hi⟩ := List.mem_iff_getElem?.mp hx
  obtain ⟨q, _, e, k, _⟩ := All2.at r hi
  exact k.is S
theorem NmF.dh (x : NmF w I d nm) (S : St h₀ I C h) : ∃ xs, h.DictOfH (pK w) d xs ∧ NmR w I nm xs ∧ (d == sysModules) = false :=
  let ⟨o, xs, a, b, c⟩ := x; ⟨xs, pt_of S (S.fz _ _ a) b c, c, beq_eq_false_iff_ne.mpr b.1⟩
theorem room1 (R : Rm A n) : (pK w).room A.in1 := by have := R.un'; show A.units + 1 < cLine; omega
section
variable {Q : Value → Shared → Prop} {p : Int × Int}
theorem ptNotIn (R : Rm A n) (S : St h₀ I C h) (x : NmF w I d nm) (k : PairF I a p) (q : ∀ tk', Q (.bool (nm.lookup p).isNone) (sh b h tk')) : wpAny (model P0 w) A (compareOp .NotIn (.ref a) (.ref d)) Q E (sh b h tk) := by
  obtain ⟨xs, m, r, lo⟩ := x.dh S
  refine wpAny_notIn_heap (knd := pK w) (room1 R) (k.key.is S) lo m ?_
  have e : (!(atKey xs [p.1, p.2]).isSome) = (nm.lookup p).isNone := by
    rcases r.at (i := p.1) (g := p.2) with ⟨e1, e2⟩ | ⟨u, ka, v, e1, e2, _⟩ <;> rw [e2, show p = (p.1, p.2) from rfl, e1] <;> rfl
  rw [e]; exact q _
theorem ptItem {value slice : Expr} {u : Int × Int} (R : Rm A n) (S : St h₀ I C h) (x : NmF w I d nm) (k : PairF I a p) (hu : nm.lookup p = some u) (q : ∀ y tk', PairF I y u → Q (.ref y) (sh b h tk'))
    (hs : subscripted slice false (.ref d) (.ref a) = operate [.ref d, .ref a] (getItem (.ref d) (.ref a)) := by with_unfolding_all rfl) (ht : ∀ r, letTemporaryGo value (.ref d) r = pure () := by intro _; with_unfolding_all rfl) :
    wpAny (model P0 w) A (subscriptTail value slice (.ref d) (.ref a)) Q E (sh b h tk) := by
  obtain ⟨xs, m, r, lo⟩ := x.dh S
  rcases r.at (i := p.1) (g := p.2) with ⟨e1, e2⟩ | ⟨u', ka, v, e1, e2, hv⟩
  · rw [show p = (p.1, p.2) from rfl, e1] at hu; cases hu
  · rw [show p = (p.1, p.2) from rfl, e1] at hu; cases hu
    exact subscriptTail_builtin (T := "dict") (let ⟨o, _, _, ho, hc, _⟩ := m; ⟨o, ho, hc.1⟩) slot_dict_getitem.lookup (wpAny_getItem_heap (knd := pK w) (room1 R) (k.key.is S) m e2 (q v _ hv)) hs ht
theorem ptGet2 (R : Rm A n) (S : St h₀ I C h) (x : NmF w I d nm) (k : PairF I a p) (q : ∀ y tk', PairF I y ((nm.lookup p).getD p) → Q (.ref y) (sh b h tk')) : wpAny (model P0 w) A (call (.builtin "dict.get") [.ref d, .ref a, .ref a]) Q E (sh b h tk) := by
  obtain ⟨xs, m, r, lo⟩ := x.dh S
  have TI : Shared.TypeIs (sh b h tk) (.ref d) "dict" := let ⟨o, _, _, ho, hc, _⟩ := m; ⟨o, ho, hc.1⟩
  refine call_meetsIn PySem.F.slot_dict_get TI PySem.F.entry_dict_get (PySem.F.args_dict_get_3 _ _ _) (meetsH_dict_get_default (pK w) d a lo (.ref a)) ⟨room1 (R := R), [p.1, p.2], xs, k.key.is S, m, ?_⟩
  rcases r.at (i := p.1) (g := p.2) with ⟨e1, e2⟩ | ⟨u', ka, v, e1, e2, hv⟩
  · rw [show p = (p.1, p.2) from rfl, e1] at q
    rw [e2]; exact q a _ k
  · rw [show p = (p.1, p.2) from rfl, e1] at q
    rw [e2]; exact q v _ hv
end
theorem ptNew {Q : Value → Shared → Prop} {env : Env} {pos : Pos} (W : Wd (KK w.params) h₀) (S : St h₀ I C h) (q : ∀ d h', St h₀ I ((d, PtO w d []) :: C) h' → Q (.ref d) (sh b h' tk)) :
    wpAny (model P0 w) A (eval (.Dict [] [] pos) env) Q E (sh b h tk) :=
  wpAny_Dict_empty (q h.objs.size _ (S.push ⟨big W S, #[], 0, ⟨rfl, rfl, rfl⟩, rfl, rfl, List.nodup_nil⟩ rfl))
theorem NmR.keys {w : World} {I : Fz} {p : Int × Int} : ∀ {nm : Names} {xs : PX}, NmR w I nm xs → nm.lookup p = none → atKey xs [p.1, p.2] = none := fun r e => by
  rcases r.at (i := p.1) (g := p.2) with ⟨e1, e2⟩ | ⟨u', ka, v, e1, e2, hv⟩
  · exact e2
  · rw [show p = (p.1, p.2) from rfl, e1] at e; cases e
theorem ptSet {Q : Unit → Shared → Prop} {p u : Int × Int} {y : Addr} (R : Rm A n) (S : St h₀ I (c :: (d, PtO w d xs) :: C) h) (r : NmR w I nm xs) (k : PairF I a p) (hu : PairF I y u) (hz : nm.length ≤ 1000) (hn : nm.lookup p = none)
    (q : ∀ h' tk' xs', St h₀ I (c :: (d, PtO w d xs') :: C) h' → NmR w I (nm ++ [(p, u)]) xs' → Q () (sh b h' tk')) : wpAny (model P0 w) A (setItem (.ref d) (.ref a) (.ref y)) Q E (sh b h tk) := by
  obtain ⟨o, ho, po⟩ := S.tail.head
  have m := pt_of S ho po r
  refine wpAny_setItem_heap (knd := pK w) (room1 R) (k.key.is S) m (fun h' hd hs => ?_) (by rw [sizeLine_eq]; have := r.len; omega)
  rw [storedH_new (r.keys hn)] at hd
  obtain ⟨o', es, ep, ho', hc, hdat, he, _, hnd⟩ := hd
  exact q h' _ _ (S.same2 hs.extBut ⟨o', ho', po.1, es, ep, hc, hdat, he, hnd⟩) (r.snoc ⟨rfl, k.key, y, rfl, hu⟩)
theorem ptFrz (S : St h₀ I ((d, PtO w d xs) :: C) h) (r : NmR w I nm xs) : ∃ I', Le I I' ∧ NmF w I' d nm ∧ St h₀ I' C h := by
  obtain ⟨o, po, S'⟩ := S.freeze
  exact ⟨_, Add.le, ⟨o, xs, Add.new, po, r.le Add.le⟩, S'⟩
end
end
section -- N2
open PySem PySem.W PyProof.Rows PySem.Calls PySem.Spec
set_option maxRecDepth 100000
set_option maxHeartbeats 1000000
set_option linter.unusedVariables false
section
variable {w : World} {A : Around} {E : Value → Shared → Prop} {b : Bs} {h : Heap} {tk : Nat} {h₀ : Heap} {I : Fz} {C : List Cell} {Q : Value → Shared → Prop} {n : Nat} {d : D} {v : Value}
theorem asgn2 {Q : Unit → Shared → Prop} {env : Env} {x y : Str} {px py pos : Pos} {k : Nat} {t : Addr} {v1 v2 : Value} {l : List (Str × Value)} (hA : A.handled = none) (S : St h₀ I ((env.locals, Loc l) :: C) h) (ht : TupF I t [v1, v2])
    (q : ∀ h' tk', St h₀ I ((env.locals, Loc ((y, v2) :: (x, v1) :: l)) :: C) h' → Q () (sh b h' tk')) (hk : env.scope.kind = .function) (hx : env.kindOf x = some .local) (hy : env.kindOf y = some .local) :
    wpAny (model P0 w) A (assign (.Tuple [.Name x px, .Name y py] k pos) env (.ref t)) Q E (sh b h tk) := by
  refine wpAny_assign_Tuple hA (ht.tup S) (by rfl) (by rfl) fun h' he => ?_
  have S1 := S.ext (h' := h') fun c o e => he c o (fun z => by have z' : c = h.objs.size := z; rw [z', size_none] at e; cases e) e
  show wpAny _ _ (do holding [v2] (assign (.Name x px) env v1); do holding [] (assign (.Name y py) env v2); assignInOrder [] []) _ _ (sh b h' tk)
  refine wpAny_bind (wpAny_holding (wpAny_assign_Name (stL S1 (fun h2 tk2 S2 => ?_) hk hx)))
  refine wpAny_bind (wpAny_holding (wpAny_assign_Name (stL S2 (fun h3 tk3 S3 => ?_) hk hy)))
  exact wpAny_pure (q _ _ S3)
theorem pair_spec {x : Addr} {l : List (Str × Value)} {i g : Int} {t u : Tok} (W : Wd (KK w.params) h₀) (R : Rm A 3) (S : St h₀ I C h) (hx : InstF I x 242 l) (h1 : l.lookup (sx "number") = some (.int i t)) (h2 : l.lookup (sx "generation") = some (.int g u))
    (q : ∀ a I' h' tk', Le I I' → PairF I' a (i, g) → St h₀ I' C h' → Q (.ref a) (sh b h' tk')) : wpAny (model P0 w) A (call (.ref 239) [.ref x]) Q E (sh b h tk) := by
  refine callP W R S (f_Reference_pair w.params) (binds := [(Str.ofString "self", .ref x)]) (fun pm => BindsTo.of_eq (by kernel_rfl)) (by kernel_rfl) (by kernel_rfl) rfl rfl rfl fun A' L h₁ tk1 R' S1 => ?_
  refine wpAny_execs_cons ?_
  walk_at "g"
  refine getF W S1 hx (v := .int i t) h1 (by rfl) (by kernel_rfl) (by kernel_rfl) (attr := none) (by kernel_rfl) (by kernel_rfl) fun tk2 => ?_
  walk_at "g"
  refine getF W S1 hx (v := .int g u) h2 (by rfl) (by kernel_rfl) (by kernel_rfl) (attr := none) (by kernel_rfl) (by kernel_rfl) fun tk3 => ?_
  walk_at "g"
  refine tupN S1 (by simp) fun y I2 h2 k2 iy S2 => ?_
  exact q _ _ _ _ k2 ⟨_, _, iy⟩ S2.tail
theorem iterDict {K : Type} [DecidableEq K] {knd : PySem.KeyKind P0 w K} {d it : Addr} {kvs : List (K × Value)} {ep : Nat} {o : Obj} (hI : I d o) (hat : ∀ h : Heap, h.get? d = some o → h.DictAt knd d kvs ep) (hne : d ≠ it) :
    Iter w I it kvs.length (fun i v => ∃ k x, kvs[i]? = some (k, x) ∧ knd.is k v = true) (fun i o => o.cls = .type "dict_keyiterator" ∧ o.data = .fields #[.ref d, .int i 0, .int kvs.length 0, .int ep 0]) :=
  ⟨fun A hA => ⟨_, _, Walks.dictKeys hA it d hne kvs ep, fun i h f q => ⟨q, hat h (f _ _ hI)⟩, fun i h q => q.1⟩⟩
theorem itDict {K : Type} [DecidableEq K] {knd : PySem.KeyKind P0 w K} {d : Addr} {kvs : List (K × Value)} (S : St h₀ I C h) (hd : DicF knd I d kvs)
    (q : ∀ it h' tk' N, Iter w I it kvs.length (fun i v => ∃ k x, kvs[i]? = some (k, x) ∧ knd.is k v = true) N → St h₀ I ((it, N 0) :: C) h' → Q (.ref it) (sh b h' tk')) : wpAny (model P0 w) A (pyIter (.ref d)) Q E (sh b h tk) := by
  obtain ⟨o, hI, hd1, es, ep, a1, a2, a3, a4, a5⟩ := hd
  have hat : ∀ h : Heap, h.get? d = some o → h.DictAt knd d kvs ep := fun h e => ⟨o, es, e, a1, a2, a3, a4, a5⟩
  exact wpAny_pyIter_dict (beq_eq_false_iff_ne.mpr hd1) (hat h (S.fz _ _ hI)) (q _ _ _ _ (iterDict hI hat (ne_size S hI)) (S.push ⟨rfl, rfl⟩ rfl))
end
end
section -- N3
open PySem PySem.W PyProof.Rows PySem.Calls PySem.Spec
set_option maxRecDepth 100000
set_option maxHeartbeats 1000000
set_option linter.unusedVariables false
section
variable {w : World} {A : Around} {E : Value → Shared → Prop} {b : Bs} {h : Heap} {tk : Nat} {h₀ : Heap} {I : Fz} {C : List Cell} {Q : Value → Shared → Prop} {n : Nat} {d : D} {v : Value}
noncomputable def nmOk (nm : Names) : Prop := ∀ p ∈ nm, smallI p.2.1 ∧ smallI p.2.2
theorem look_in {α β : Type} [BEq α] [LawfulBEq α] {k : α} {d : β} : ∀ {l : List (α × β)}, l.lookup k = some d → (k, d) ∈ l
  | (j, x) :: r, h => by
    rw [List.lookup_cons] at h
    split at h
    · rename_i e; rw [beq_iff_eq.mp e]; cases h; exact .head _
    · exact .tail _ (look_in h)
theorem renL_snoc (nm : Names) : ∀ (l : List D) (d : D), renL nm (l ++ [d]) = renL nm l ++ [ren nm d]
  | [], d => rfl
  | a :: r, d => by rw [List.cons_append, renL, renL, renL_snoc nm r d]; rfl
theorem renL_len (nm : Names) : ∀ l : List D, (renL nm l).length = l.length
  | [] => rfl
  | _ :: r => by rw [renL, List.length_cons, List.length_cons, renL_len nm r]
theorem strKey_inv {k : Str} {v : Value} (hk : (sK w).is k v = true) : ∃ t, v = .str k t := by
  cases v <;> first | exact absurd hk Bool.false_ne_true | skip
  rename_i s t
  have e : s = k := (sK w).inj _ _ _ (strKind_is P0 w s t) hk
  exact ⟨t, by rw [e]⟩
theorem renR_eq (nm : Names) : ∀ l : List (Str × D), renR nm l = (l.map fun p => (p.1, ren nm p.2)).filter fun p => !p.2.isNull
  | [] => rfl
  | (k, d) :: r => by
    rw [renR, List.map_cons, List.filter_cons, ← renR_eq nm r]
    cases e : (ren nm d).isNull <;> simp
noncomputable def R3 (w : World) (n : Nat) (I : Fz) (p : Str × D) (v : Value) : Prop := ∃ t tk u, v = .ref t ∧ TupF I t [.str p.1 tk, u] ∧ IsD w I n p.2 u
theorem R3.le {J : Fz} {p : Str × D} (x : R3 w n I p v) (k : Le I J) : R3 w n J p v := let ⟨t, tk, u, a, b, c⟩ := x; ⟨t, tk, u, a, b.le k, c.le k⟩
theorem r3_split {l : List (Str × D)} {vs : List Value} (r : All2 (R3 w n I) l vs) : ∃ ps : List (Str × Value), All2 (fun (p : Str × Value) v => ∃ t tk, v = .ref t ∧ TupF I t [.str p.1 tk, p.2]) ps vs ∧ Rows w I n l ps := by
  induction r with
  | nil => exact ⟨[], .nil, .nil⟩
  | @cons p v l vs x _ ih =>
    obtain ⟨t, tk, u, a, b, c⟩ := x
    obtain ⟨ps, d, e⟩ := ih
    exact ⟨(p.1, u) :: ps, .cons ⟨t, tk, a, b⟩ d, .cons ⟨rfl, c⟩ e⟩
theorem okRow_ren {nm : Names} {p : Str × D} (h : okRow p) : okRow (p.1, ren nm p.2) := ⟨h.1, fun e => by rw [show p.2 = .name (Str.ofString "Page") from h.2 e]; rfl⟩
theorem valueAt_of {kvs : List (Str × Value)} {i : Nat} {k : Str} {u : Value} (nd : (kvs.map (·.1)).Nodup) (h : kvs[i]? = some (k, u)) : valueAt kvs k = some u := by
  induction kvs generalizing i with
  | nil => simp at h
  | cons a r ih =>
    rw [List.map_cons, List.nodup_cons] at nd
    cases i with
    | zero => simp at h; subst h; simp [valueAt]
    | succ i =>
      have h' : r[i]? = some (k, u) := by simpa using h
      have : ¬ a.1 = k := fun e => nd.1 (e ▸ List.mem_map.mpr ⟨(k, u), List.mem_of_getElem? h', rfl⟩)
      have := ih nd.2 h'
      unfold valueAt at this ⊢
      rw [List.find?_cons, show decide (a.1 = k) = false by simpa using ‹¬ a.1 = k›]; exact this
noncomputable def RenSpec (w : World) (h₀ : Heap) (n : Nat) : Prop := ∀ {A : Around} {E : Value → Shared → Prop} {b : Bs} {h : Heap} {tk : Nat} {I : Fz} {C : List Cell} {Q : Value → Shared → Prop} {d : D} {v : Value} {t : Addr} {nm : Names} (W : Wd (KK w.params) h₀) (R : Rm A (n + 6)) (S : St h₀ I C h) (hd : IsD w I n d v) (ht : NmF w I t nm) (hok : nmOk nm)
    (q : ∀ v' I' h' tk', Le I I' → IsD w I' n (ren nm d) v' → St h₀ I' C h' → Q v' (sh b h' tk')), wpAny (model P0 w) A (call (.ref 270) [v, .ref t]) Q E (sh b h tk)
theorem ren_spec (n : Nat) : RenSpec w h₀ n := by
  induction n with
  | zero => intro A E b h tk I C Q d v t nm W R S hd ht hok q; exact hd.elim
  | succ n ih =>
    intro A E b h tk I C Q d v ta nm W R S hd ht hok q
    refine callF (binds := [(Str.ofString "value", v), (Str.ofString "table", .ref ta)]) (lo := []) (cl := fun L => [(Str.ofString "table", L + 2), (Str.ofString "value", L + 1)]) (cs := fun L => [(L + 2, .ref ta), (L + 1, v)])
      W R S (f_renumbered w.params) (fun pm => BindsTo.of_eq (by kernel_rfl)) (by kernel_rfl) (by decide +kernel) (fun L => by kernel_rfl) (by kernel_rfl) (fun L => by kernel_rfl) rfl rfl rfl fun A' L I1 h1 tk1 R' k1 hcs S1 => ?_
    have c1 : CellF I1 (L + 2) (.ref ta) := hcs (L + 2, .ref ta) (by simp)
    have c2 : CellF I1 (L + 1) v := hcs (L + 1, v) (by simp)
    clear hcs
    replace hd := hd.le k1
    replace ht := ht.le k1
    refine wpAny_execs_cons ?_
    walk_at "g"
    walk_at "k"
    refine kind_spec W (R'.less (by omega)) S1 hd fun t h2 tk2 S2 => ?_
    clear S1
    walk_at "s"; intro h3 tk3 S3; clear S2
    cases d with
    | null =>
      have S4 := S3
      dsimp only [kindS] at S4
      clear S3
      walk_at "g"
      exact q _ _ _ _ k1 hd S4.tail
    | int =>
      have S4 := S3
      dsimp only [kindS] at S4
      clear S3
      walk_at "g"
      exact q _ _ _ _ k1 hd S4.tail
    | name =>
      have S4 := S3
      dsimp only [kindS] at S4
      clear S3
      walk_at "g"
      exact q _ _ _ _ k1 hd S4.tail
    | ref i g =>
      dsimp only [kindS] at S3
      obtain ⟨x, t1, t2, rfl, ix, hi, hg⟩ := hd
      walk_at "g"
      refine getM (K := KK w.params) (f := 239) W S3 (ix.h S3) (by kernel_rfl) (by kernel_rfl) (by kernel_rfl) (by kernel_rfl) (by rfl) ?_
      refine callWith_K0 (S3.Kin W) (by kernel_rfl) ?_
      refine pair_spec W (R'.less (by omega)) S3 ix rfl rfl fun y I2 h4 tk4 k2 iy S4 => ?_
      clear S3
      replace c1 := c1.le k2; replace c2 := c2.le k2
      walk_at "g"
      refine ptNotIn R' S4 (ht.le k2) iy fun tk5 => ?_
      walk_at "g"
      refine ifB (fun hn => ?_) (fun hn => ?_)
      · walk_at "g"
        have e : nm.lookup (i, g) = none := by cases hl : nm.lookup (i, g) with | none => rfl | some p => rw [hl] at hn; cases hn
        refine q _ _ _ _ (k1.trans k2) ?_ S4.tail
        rw [ren, e]; rfl
      · obtain ⟨p, hl⟩ : ∃ p, nm.lookup (i, g) = some p := by cases hl : nm.lookup (i, g) with | none => rw [hl] at hn; cases hn | some p => exact ⟨p, rfl⟩
        walk_at "g"
        refine getM (K := KK w.params) (f := 239) W S4 ((ix.le k2).h S4) (by kernel_rfl) (by kernel_rfl) (by kernel_rfl) (by kernel_rfl) (by rfl) ?_
        refine callWith_K0 (S4.Kin W) (by kernel_rfl) ?_
        refine pair_spec W (R'.less (by omega)) S4 (ix.le k2) rfl rfl fun y2 I3 h5 tk6 k3 iy2 S5 => ?_
        clear S4
        replace c1 := c1.le k3; replace c2 := c2.le k3
        refine ptItem R' S5 (ht.le (k2.trans k3)) iy2 hl fun y3 tk7 iy3 => ?_
        obtain ⟨u1, u2, iy3⟩ := iy3
        refine asgn2 R'.hd S5 iy3 (fun h6 tk8 S6 => ?_) rfl rfl rfl
        clear S5
        walk_at "g"
        walk_at "k"
        refine newRef W (R'.less (by omega)) S6 fun xr I4 h7 tk9 k4 ixr S7 => ?_
        walk_at "g"
        refine q _ _ _ _ (k1.trans (k2.trans (k3.trans k4))) ?_ S7.tail
        rw [ren, hl]
        have := hok _ (look_in hl)
        exact ⟨xr, _, _, rfl, ixr, this.1, this.2⟩
    | arr l =>
      dsimp only [kindS] at S3
      walk_at "g"
      obtain ⟨xl, vs, ol, rfl, hol, hlo, hal, hlen⟩ := hd
      refine compF (h₀ := h₀) (cl := [(Str.ofString "table", L + 2)]) R'.hd (by kernel_rfl) (by kernel_rfl) rfl (by kernel_rfl) (by kernel_rfl) fun HP hHP => ?_
      walk_at "g"
      refine itList S3 hol hlo fun it h5 tk5 N HI S5 => ?_
      refine hHP ⟨it, I1, I1, _, _, N, h5, tk5, _, b, fun i I' ys C' => All2 (IsD w I' n) (renL nm (l.take i)) ys ∧ C' = (L, Loc [(Str.ofString "kind", .str (Str.ofString "array") t)]) :: C, rfl, rfl, HI, by rw [List.size_toArray, ← hal.len]; omega, Le.rfl, S5, ⟨.nil, rfl⟩, ?_, ?_⟩
      · rintro i I' ys C' Lc acc h tk v hi ⟨hys, rfl⟩ k3 hv S6 Nx hNx
        obtain ⟨d, hd1, hd2⟩ := hal.at (by simpa using hv)
        replace c1 := c1.le k3
        refine wpAny_tests_nil ?_
        walk_at "g"
        walk_at "k"
        refine ih W (R'.less (by omega)) S6 (hd2.le k3) (ht.le k3) hok fun v' I3 h6 tk6 k4 hv' S7 => ?_
        refine hNx ⟨I3, _, h6, tk6, rfl, k4, ⟨?_, rfl⟩, S7⟩
        rw [take_snoc hd1, renL_snoc]
        exact (hys.imp fun _ _ y => y.le k4).snoc hv'
      · rintro I' ys C' acc h tk ⟨hys, rfl⟩ k3 S6
        obtain ⟨I3, k4, hl3, S7⟩ := S6.frzL
        obtain ⟨ol2, hol2, hlo2⟩ := hl3
        rw [show l.take vs.toArray.size = l from List.take_of_length_le (by rw [List.size_toArray, ← hal.len]; exact Nat.le_refl _)] at hys
        exact q _ _ _ _ (k1.trans (k3.trans k4)) ⟨acc, ys, ol2, rfl, hol2, hlo2, hys.imp fun _ _ y => y.le k4, by rw [renL_len]; omega⟩ S7.tail
    | dict l =>
      dsimp only [kindS] at S3
      walk_at "g"
      obtain ⟨xd, kvs, rfl, hdf, hal, hlen, hokr⟩ := hd
      have hnd : (l.map (·.1)).Nodup := rows_keys hal ▸ dic_nodup hdf
      refine compA (h₀ := h₀) (cl := [(Str.ofString "value", L + 1), (Str.ofString "table", L + 2)]) R'.hd (by rfl) (by rfl) (by with_unfolding_all rfl) (by kernel_rfl) (by kernel_rfl) rfl (by kernel_rfl) (by kernel_rfl) fun HP hHP => ?_
      walk_at "g"
      refine itDict S3 hdf fun it h5 tk5 N HI S5 => ?_
      clear S3
      refine hHP ⟨it, I1, I1, _, _, N, h5, tk5, _, b, fun i I' ys C' => All2 (R3 w n I') ((l.take i).map fun p => (p.1, ren nm p.2)) ys ∧ C' = (L, Loc [(Str.ofString "kind", .str (Str.ofString "dict") t)]) :: C, rfl, rfl, HI, by rw [← hal.len]; omega, Le.rfl, S5, ⟨.nil, rfl⟩, ?_, ?_⟩
      · rintro i I' ys C' Lc acc h tk v hi ⟨hys, rfl⟩ k3 ⟨ky, u, hku, hky⟩ S6 Nx hNx
        obtain ⟨tky, rfl⟩ := strKey_inv hky
        obtain ⟨p, hp, hpe, hpd⟩ := hal.at hku
        have hpe : p.1 = ky := hpe
        replace c1 := c1.le k3; replace c2 := c2.le k3
        refine wpAny_tests_nil ?_
        walk_at "g"
        refine subD (hdf.le k3) S6 (strKind_is P0 w ky tky) (valueAt_of (dic_nodup hdf) hku) fun tk7 => ?_
        walk_at "g"
        walk_at "k"
        refine ih W (R'.less (by omega)) S6 (hpd.le k3) (ht.le k3) hok fun v' I3 h6 tk6 k4 hv' S7 => ?_
        walk_at "g"
        refine tupN S7 (by simp) fun xt I4 h7 k5 ixt S8 => ?_
        refine hNx ⟨I4, _, h7, _, rfl, k4.trans k5, ⟨?_, rfl⟩, S8⟩
        rw [take_snoc hp, List.map_append]
        exact (hys.imp fun _ _ y => y.le (k4.trans k5)).snoc ⟨xt, tky, v', rfl, hpe ▸ ixt, hv'.le k5⟩
      · rintro I' ys C' ⟨hys, rfl⟩ k3
        refine ⟨_, C, rfl, fun acc h6 tk6 S6 => ?_⟩
        rw [show l.take kvs.length = l from List.take_of_length_le (by rw [← hal.len]; exact Nat.le_refl _)] at hys
        replace c1 := c1.le k3; replace c2 := c2.le k3
        obtain ⟨I3, k4, hl3, S7⟩ := S6.swap.frzL
        replace c1 := c1.le k4; replace c2 := c2.le k4
        walk_at "g"
        refine compF (h₀ := h₀) (cl := []) R'.hd (by kernel_rfl) (by kernel_rfl) rfl (by kernel_rfl) (by kernel_rfl) fun HP hHP => ?_
        walk_at "g"
        obtain ⟨of, hof, hlof⟩ := hl3
        refine itList S7 hof hlof fun it2 h7 tk7 N2 HI2 S8 => ?_
        have hys2 := hys.imp fun _ _ y => y.le k4
        have hlr : (l.map fun p => (p.1, ren nm p.2)).length = ys.length := hys.len
        refine hHP ⟨it2, I3, I3, _, _, N2, h7, tk7, _, b, fun i I' zs C' => All2 (R3 w n I') (((l.map fun p => (p.1, ren nm p.2)).take i).filter fun p => !p.2.isNull) zs ∧ C' = (L, Loc [(Str.ofString "found", .ref acc), (Str.ofString "kind", .str (Str.ofString "dict") t)]) :: C, rfl, rfl, HI2, by rw [List.size_toArray, ← hlr, List.length_map]; omega, Le.rfl, S8, ⟨.nil, rfl⟩, ?_, ?_⟩
        · rintro i I4 zs C' Lc acc2 h tk v hi ⟨hzs, rfl⟩ k5 hv S9 Nx hNx
          obtain ⟨p, hp, tt, tk', u, rfl, itt, hu⟩ := hys2.at (by simpa using hv)
          refine wpAny_tests_one ?_
          walk_at "g"
          refine itemT (itt.le k5) S9 (by decide) (by decide) (v := u) rfl ?_
          walk_at "g"
          refine isNotD (hu.le k5) ?_
          walk_at "g"
          refine ifB (fun hn => ?_) (fun hn => ?_)
          · walk_at "g"
            refine hNx ⟨I4, _, _, _, rfl, Le.rfl, ⟨?_, rfl⟩, S9⟩
            rw [take_snoc hp, List.filter_append]
            simp only [List.filter_cons, hn, if_true, List.filter_nil]
            exact hzs.snoc ⟨tt, tk', u, rfl, itt.le k5, hu.le k5⟩
          · refine hNx ⟨I4, _, _, _, rfl, Le.rfl, ⟨?_, rfl⟩, S9⟩
            rw [take_snoc hp, List.filter_append]
            simp only [List.filter_cons, hn, List.filter_nil, Bool.false_eq_true, if_false, List.append_nil]
            exact hzs
        · rintro I4 zs C' acc2 h tk ⟨hzs, rfl⟩ k5 S9
          rw [List.take_of_length_le (by rw [List.size_toArray, hlr]; exact Nat.le_refl _), ← renR_eq] at hzs
          obtain ⟨I5, k6, hpl, S10⟩ := S9.frzP
          walk_at "g"
          obtain ⟨ps, hps, hrows⟩ := r3_split (hzs.imp fun _ _ y => y.le k6)
          have hlen2 : (renR nm l).length ≤ l.length := by rw [renR_eq]; exact Nat.le_trans (List.length_filter_le ..) (by rw [List.length_map]; exact Nat.le_refl _)
          have hnd2 : (ps.map (·.1)).Nodup := by
            rw [← rows_keys hrows, renR_eq]
            have : ((l.map fun p => (p.1, ren nm p.2)).map (·.1)).Nodup := by rw [List.map_map]; exact hnd
            exact this.sublist (List.filter_sublist.map _)
          refine dictPairs W R'.hd S10 hpl hps (by rw [← hrows.len]; omega) hnd2 fun dd h8 tk8 S11 => ?_
          walk_at "g"
          obtain ⟨od, hod, S12⟩ := S11.freeze
          refine q _ _ _ _ (k1.trans (k3.trans (k4.trans (k5.trans (k6.trans Add.le))))) ⟨dd, ps, rfl, ⟨od, Add.new, hod⟩, Rows.le (J := Add I5 dd od) hrows Add.le, by omega, ?_⟩ S12.tail
          intro p hp
          rw [renR_eq] at hp
          obtain ⟨p', hp', rfl⟩ := List.mem_map.mp (List.mem_filter.mp hp).1
          exact okRow_ren (hokr p' hp')
    | stream d o =>
      dsimp only [kindS] at S3
      obtain ⟨y, hv, u, rfl, iy, hh, ⟨ld, hld⟩, ho⟩ := hd
      walk_at "g"
      refine getF W S3 iy (v := hv) (by rfl) (handD hh) (by kernel_rfl) (by kernel_rfl) (attr := none) (by kernel_rfl) (by kernel_rfl) fun tk4 => ?_
      walk_at "g"
      walk_at "k"
      refine ih W (R'.less (by omega)) S3 hh ht hok fun v' I2 h4 tk5 k2 hv' S4 => ?_
      clear S3
      replace c1 := c1.le k2; replace c2 := c2.le k2
      walk_at "g"
      refine getF W S4 (iy.le k2) (v := .bytes o u) (by rfl) (by rfl) (by kernel_rfl) (by kernel_rfl) (attr := none) (by kernel_rfl) (by kernel_rfl) fun tk6 => ?_
      walk_at "g"
      walk_at "k"
      refine newStream W (R'.less (by omega)) S4 fun x I3 h5 tk7 k3 ixs S5 => ?_
      walk_at "g"
      refine q _ _ _ _ (k1.trans (k2.trans k3)) ⟨x, _, _, rfl, ixs, hv'.le k3, ?_, ho⟩ S5.tail
      exact ⟨renR nm ld, by rw [hld, ren]⟩
end
end
section -- G1
open PySem PySem.W PyProof.Rows PySem.Calls PySem.Spec
set_option maxRecDepth 100000
set_option maxHeartbeats 1000000
set_option linter.unusedVariables false
section
variable {w : World} {A : Around} {E : Value → Shared → Prop} {b : Bs} {h : Heap} {tk : Nat} {h₀ : Heap} {I : Fz} {C : List Cell} {Q : Value → Shared → Prop} {n : Nat} {d : D} {v : Value}
theorem getMD {K : Type} [DecidableEq K] {knd : PySem.KeyKind P0 w K} {x : Addr} {kvs : List (K × Value)} {pl : Sem Bool} {Q : Value × List Value → Shared → Prop} (hd : DicF knd I x kvs) (S : St h₀ I C h) (q : Q (.builtin "dict.get", [.ref x]) (sh b h tk)) :
    wpAny (model P0 w) A (getMethod (.ref x) "get" pl) Q E (sh b h tk) := by
  obtain ⟨o, ho, hc⟩ := hd
  exact getMethod_builtin (T := "dict") ⟨o, S.fz _ _ ho, isDic_cls hc⟩ PySem.F.plainAttrs_dict PySem.F.slot_dict_get PySem.F.type_dict_get (fun a e => by injection e with e; subst e; exact ⟨o, S.fz _ _ ho, let ⟨_, _, _, h, _⟩ := hc; h.2.1⟩) q
theorem dGet1 {K : Type} [DecidableEq K] {knd : PySem.KeyKind P0 w K} {x : Addr} {kvs : List (K × Value)} {k : K} {key : Value} (hd : DicF knd I x kvs) (S : St h₀ I C h) (hk : knd.is k key = true) (q : ∀ tk', Q ((valueAt kvs k).getD .none) (sh b h tk')) :
    wpAny (model P0 w) A (call (.builtin "dict.get") [.ref x, key]) Q E (sh b h tk) := by
  have dh := hd.dh S
  obtain ⟨o, ho, hc⟩ := hd
  exact call_meetsIn (T := "dict") PySem.F.slot_dict_get ⟨o, S.fz _ _ ho, isDic_cls hc⟩ PySem.F.entry_dict_get (PySem.F.args_dict_get_2 _ _) (meets_dict_get knd x hk dh.ns) ⟨_, dh.2.mapOf, q _⟩
theorem rows_getD {k : Str} {l : List (Str × D)} {kvs : List (Str × Value)} (x : All2 (fun (p : Str × D) (q : Str × Value) => p.1 = q.1 ∧ IsD w I n p.2 q.2) l kvs) : IsD w I (n + 1) ((l.lookup k).getD .null) ((valueAt kvs k).getD .none) := by
  by_cases h : k ∈ l.map (·.1)
  · obtain ⟨d, v, e1, e2, e3⟩ := rows_look x h
    rw [e1, e2]; exact e3.up
  · have e1 : l.lookup k = none := by cases q : l.lookup k with | none => rfl | some d => exact absurd (look_mem q) h
    have e2 : valueAt kvs k = none := by
      unfold valueAt
      rw [Option.map_eq_none_iff, List.find?_eq_none]
      intro p hp e
      exact h (rows_keys x ▸ List.mem_map.mpr ⟨p, hp, by simpa using e⟩)
    rw [e1, e2]; rfl
theorem word_spec (W : Wd (KK w.params) h₀) (R : Rm A 5) (S : St h₀ I C h) (hd : IsD w I n d v) (q : ∀ t h' tk', St h₀ I C h' → Q (.str (word d) t) (sh b h' tk')) :
    wpAny (model P0 w) A (call (.ref 366) [v]) Q E (sh b h tk) := by
  refine callP W R S (f_word_of w.params) (binds := [(Str.ofString "value", v)]) (fun pm => BindsTo.of_eq (by kernel_rfl)) (by kernel_rfl) (by kernel_rfl) rfl rfl rfl fun A' L h₁ tk1 R' S1 => ?_
  cases n with
  | zero => exact hd.elim
  | succ n =>
  refine wpAny_execs_cons ?_
  walk_at "g"
  walk_at "k"
  refine kind_spec W (R'.less (by omega)) S1 hd fun t h2 tk2 S2 => ?_
  clear S1
  cases d with
  | dict l =>
    dsimp only [kindS]
    obtain ⟨x, kvs, rfl, hdf, hal, _⟩ := hd
    have hg := rows_getD (k := Str.ofString "Type") hal
    walk_at "g"
    refine getMD hdf S2 ?_
    walk_at "g"
    refine dGet1 hdf S2 (strKind_is P0 w _ _) fun tk3 => ?_
    walk_at "g"
    refine iiD .name W S2 hg fun tk4 => ?_
    walk_at "g"
    refine ifB (fun e => ?_) (fun e => ?_)
    · walk_at "g"
      have e2 : word (.dict l) = Str.ofString "" := by
        show (match l.lookup (sx "Type") with | some (.name s) => s | _ => sx "") = sx ""
        cases hl : l.lookup (sx "Type") with
        | none => rfl
        | some d => cases d <;> first | rfl | (rw [show l.lookup (Str.ofString "Type") = some _ from hl] at e; cases e)
      exact e2 ▸ q _ _ _ S2.tail
    · obtain ⟨s, hs⟩ : ∃ s, l.lookup (sx "Type") = some (.name s) := by
        cases hl : l.lookup (sx "Type") with
        | none => rw [show l.lookup (Str.ofString "Type") = none from hl] at e; cases e
        | some d => cases d <;> first | exact ⟨_, rfl⟩ | (rw [show l.lookup (Str.ofString "Type") = some _ from hl] at e; cases e)
      obtain ⟨d', v', e1, e2, e3⟩ := rows_look hal (look_mem hs)
      rw [hs] at e1; cases e1
      walk_at "g"
      refine subD hdf S2 (strKind_is P0 w _ _) e2 fun tk5 => ?_
      cases n with
      | zero => exact e3.elim
      | succ n =>
      obtain ⟨y, ty, rfl, iy, _⟩ := e3
      walk_at "g"
      refine getF W S2 iy (v := .str s ty) (by rfl) (by rfl) (by kernel_rfl) (by kernel_rfl) (attr := none) (by kernel_rfl) (by kernel_rfl) fun tk6 => ?_
      walk_at "g"
      have e4 : word (.dict l) = s := by
        show (match l.lookup (sx "Type") with | some (.name s) => s | _ => sx "") = s
        rw [hs]
      exact e4 ▸ q _ _ _ S2.tail
  | _ => 
    dsimp only [kindS]
    walk_at "g"
    exact q _ _ _ S2.tail
theorem page_spec (W : Wd (KK w.params) h₀) (R : Rm A 5) (S : St h₀ I C h) (hd : IsD w I n d v) (q : ∀ h' tk', St h₀ I C h' → Q (.bool (isPage d)) (sh b h' tk')) :
    wpAny (model P0 w) A (call (.ref 418) [v]) Q E (sh b h tk) := by
  refine callP W R S (f_law_is_page w.params) (binds := [(Str.ofString "value", v)]) (fun pm => BindsTo.of_eq (by kernel_rfl)) (by kernel_rfl) (by kernel_rfl) rfl rfl rfl fun A' L h₁ tk1 R' S1 => ?_
  refine wpAny_execs_cons ?_
  walk_at "g"
  refine iiD .dict W S1 hd fun tk2 => ?_
  walk_at "g"
  refine ifB (fun e => ?_) (fun e => ?_)
  · cases n with
    | zero => exact hd.elim
    | succ n =>
    cases d with
    | dict l =>
      obtain ⟨x, kvs, rfl, hdf, hal, _⟩ := hd
      have hg := rows_getD (k := Str.ofString "Type") hal
      walk_at "g"
      refine getMD hdf S1 ?_
      walk_at "g"
      refine dGet1 hdf S1 (strKind_is P0 w _ _) fun tk3 => ?_
      walk_at "g"
      refine iiD .name W S1 hg fun tk4 => ?_
      have e2 : isK .name ((l.lookup (Str.ofString "Type")).getD .null) = isPage (.dict l) := by
        show _ = (match l.lookup (sx "Type") with | some (.name _) => true | _ => false)
        cases hl : l.lookup (sx "Type") with
        | none => rfl
        | some d => cases d <;> rfl
      rw [e2]
      exact q _ _ S1.tail
    | _ => cases e
  · have e2 : isPage d = false := by cases d <;> first | rfl | cases e
    rw [e]
    exact e2 ▸ q _ _ S1.tail
end
end
section -- G2
open PySem PySem.W PyProof.Rows PySem.Calls PySem.Spec
set_option maxRecDepth 100000
set_option maxHeartbeats 1000000
set_option linter.unusedVariables false
noncomputable def RowF (w : World) (I : Fz) (p : Int × Int × D) (q : Int × Value) : Prop := p.1 = q.1 ∧ ∃ t u v, q.2 = .ref t ∧ TupF I t [.int p.2.1 u, v] ∧ IsD w I 6 p.2.2 v
theorem RowF.le {w : World} {I J : Fz} {p : Int × Int × D} {q : Int × Value} (x : RowF w I p q) (k : Le I J) : RowF w J p q := let ⟨e, t, u, v, a, b, c⟩ := x; ⟨e, t, u, v, a, b.le k, c.le k⟩
structure TabOk (tb : Tab) : Prop where
  pw : (tb.map (·.1)).Pairwise (· < ·)
  ln : tb.length ≤ 6
  sm : ∀ p ∈ tb, smallI p.1 ∧ smallI p.2.1
structure TabF (w : World) (I : Fz) (t : Addr) (tb : Tab) (kvs : List (Int × Value)) : Prop where
  dic : DicF (iK w) I t kvs
  al : All2 (RowF w I) tb kvs
theorem TabF.le {w : World} {I J : Fz} {t : Addr} {tb : Tab} {kvs : List (Int × Value)} (x : TabF w I t tb kvs) (k : Le I J) : TabF w J t tb kvs := ⟨x.dic.le k, x.al.imp fun _ _ y => y.le k⟩
theorem rowKeys {w : World} {I : Fz} {tb : Tab} {kvs : List (Int × Value)} (x : All2 (RowF w I) tb kvs) : tb.map (·.1) = kvs.map (·.1) := by
  induction x with
  | nil => rfl
  | cons x y ih => rw [List.map_cons, List.map_cons, x.1, ih]
theorem tab_look {w : World} {I : Fz} {k g : Int} {d : D} : ∀ {tb : Tab} {kvs : List (Int × Value)}, All2 (RowF w I) tb kvs → tb.lookup k = some (g, d) → ∃ t u v, valueAt kvs k = some (.ref t) ∧ TupF I t [.int g u, v] ∧ IsD w I 6 d v
  | p :: tb, q :: kvs, .cons x y, h => by
    obtain ⟨e, t, u, v, a, b, c⟩ := x
    obtain ⟨pk, pg, pd⟩ := p
    obtain ⟨qk, qv⟩ := q
    obtain rfl : pk = qk := e
    by_cases e : k = pk
    · subst e
      rw [List.lookup_cons, beq_self_eq_true] at h
      cases h
      exact ⟨t, u, v, by simp [valueAt]; exact a, b, c⟩
    · rw [List.lookup_cons, show (k == pk) = false by simpa using e] at h
      obtain ⟨t', u', v', a', b', c'⟩ := tab_look y h
      refine ⟨t', u', v', ?_, b', c'⟩
      have : ¬ pk = k := fun q => e q.symm
      unfold valueAt at a' ⊢
      rw [List.find?_cons, show decide ((pk, qv).1 = k) = false by simpa using this]; exact a'
theorem look_at {α : Type} {i : Nat} {k : Int} {u : α} : ∀ {tb : List (Int × α)}, (tb.map (·.1)).Pairwise (· < ·) → tb[i]? = some (k, u) → tb.lookup k = some u := by
  induction i with
  | zero => intro tb _ h; cases tb with | nil => simp at h | cons a r => simp at h; subst h; simp
  | succ i ih =>
    intro tb pw h
    cases tb with
    | nil => simp at h
    | cons a r =>
      rw [List.map_cons, List.pairwise_cons] at pw
      have h' : r[i]? = some (k, u) := by simpa using h
      have := pw.1 k (List.mem_map.mpr ⟨(k, u), List.mem_of_getElem? h', rfl⟩)
      obtain ⟨ak, av⟩ := a
      have hne : (k == ak) = false := by simp at this ⊢; omega
      rw [List.lookup_cons, hne]
      exact ih pw.2 h'
structure ShelfF (w : World) (I : Fz) (x : Addr) (tb : Tab) (tr : D) : Prop where
  ex : ∃ l t kvs vt, InstF I x 356 l ∧ l.lookup sTb = some (.ref t) ∧ l.lookup sTr = some vt ∧ TabF w I t tb kvs ∧ IsD w I 6 tr vt ∧ ∀ n, n ≠ sTb → n ≠ sTr → l.lookup n = none
  ok : TabOk tb
  tr : ∃ l, tr = .dict l
theorem ShelfF.le {w : World} {I J : Fz} {x : Addr} {tb : Tab} {tr : D} (s : ShelfF w I x tb tr) (k : Le I J) : ShelfF w J x tb tr :=
  ⟨let ⟨l, t, kvs, vt, a, b, c, d, e, f⟩ := s.ex; ⟨l, t, kvs, vt, a.le k, b, c, d.le k, e.le k, f⟩, s.ok, s.tr⟩
section
variable {w : World} {A : Around} {E : Value → Shared → Prop} {b : Bs} {h : Heap} {tk : Nat} {h₀ : Heap} {I : Fz} {C : List Cell} {Q : Value → Shared → Prop} {n : Nat} {d tr : D} {v : Value} {x : Addr} {tb : Tab}
theorem getTb {l : List (Str × Value)} {v : Value} (W : Wd (KK w.params) h₀) (S : St h₀ I C h) (i : InstF I x 356 l) (hv : l.lookup sTb = some v) (hh : handedIn v = true) (q : ∀ tk', Q v (sh b h tk')) : wpAny (model P0 w) A (getAttr (.ref x) (Str.ofString "table") true) Q E (sh b h tk) :=
  getF W S i hv hh (by kernel_rfl) (by kernel_rfl) (attr := none) (by kernel_rfl) (by kernel_rfl) q
theorem getTr {l : List (Str × Value)} {v : Value} (W : Wd (KK w.params) h₀) (S : St h₀ I C h) (i : InstF I x 356 l) (hv : l.lookup sTr = some v) (hh : handedIn v = true) (q : ∀ tk', Q v (sh b h tk')) : wpAny (model P0 w) A (getAttr (.ref x) (Str.ofString "trailer") true) Q E (sh b h tk) :=
  getF W S i hv hh (by kernel_rfl) (by kernel_rfl) (attr := none) (by kernel_rfl) (by kernel_rfl) q
theorem intKey_is {k : Int} {t : Tok} : (iK w).is k (.int k t) = true := by simp [PySem.intKind, Value.isInt]
theorem intKey_inv {k : Int} {v : Value} (hk : (iK w).is k v = true) : ∃ t, v = .int k t := by
  cases v <;> first | exact absurd hk Bool.false_ne_true | skip
  rename_i s t
  have e : s = k := (iK w).inj (.int s t) _ _ intKey_is hk
  exact ⟨t, by rw [e]⟩
theorem numbers_spec (W : Wd (KK w.params) h₀) (R : Rm A 5) (S : St h₀ I C h) (hs : ShelfF w I x tb tr) (q : ∀ a vs I' h' tk', Le I I' → ListF I' a vs → IntsAre vs (tb.map (·.1)) → St h₀ I' C h' → Q (.ref a) (sh b h' tk')) :
    wpAny (model P0 w) A (call (.ref 341) [.ref x]) Q E (sh b h tk) := by
  refine callP W R S (f_Shelf_numbers w.params) (binds := [(Str.ofString "self", .ref x)]) (fun pm => BindsTo.of_eq (by kernel_rfl)) (by kernel_rfl) (by kernel_rfl) rfl rfl rfl fun A' L h₁ tk1 R' S1 => ?_
  obtain ⟨l, t, kvs, vt, hi, h1, h2, ht, _⟩ := hs.ex
  have hk := rowKeys ht.al
  refine wpAny_execs_cons ?_
  walk_at "g"
  refine getTb W S1 hi h1 (by rfl) fun tk2 => ?_
  walk_at "g"
  refine sortInt (R'.less (by omega)) S1 ht.dic (by rw [← ht.al.len]; have := hs.ok.ln; omega) (hk ▸ hs.ok.pw) fun a vs I' h' tk' k l ii S2 => ?_
  walk_at "g"
  exact q a vs I' h' _ k l (hk ▸ ii) S2.tail
theorem getNumbers {Q : Value → Shared → Prop} {env : Env} {pos : Pos} {pl : Sem Bool} (W : Wd (KK w.params) h₀) (R : Rm A 5) (S : St h₀ I C h) (hs : ShelfF w I x tb tr) (q : ∀ a vs I' h' tk', Le I I' → ListF I' a vs → IntsAre vs (tb.map (·.1)) → St h₀ I' C h' → Q (.ref a) (sh b h' tk')) :
    wpAny (model P0 w) A (getMethod (.ref x) (Str.ofString "numbers") pl) (fun fx s₂ => wpAny (model P0 w) A (callWith pos fx.1 fx.2 (backTo pos (starEach [] env)) []) Q E s₂) E (sh b h tk) := by
  obtain ⟨l, t, kvs, vt, hi, h1, h2, ht, _, hm⟩ := hs.ex
  refine getM (K := KK w.params) (f := 341) W S (hi.h S) (by kernel_rfl) (by kernel_rfl) (by kernel_rfl) (by kernel_rfl) (hm _ (by decide +kernel) (by decide +kernel)) ?_
  refine callWith_K0 (S.Kin W) (by kernel_rfl) ?_
  exact numbers_spec W R S hs q
theorem ints_of : ∀ {vs : List Value} {ns : List Int} {i : Nat} {v : Value}, IntsAre vs ns → vs[i]? = some v → ∃ n t, v = .int n t ∧ ns[i]? = some n
  | _, _, 0, v, .cons n t _, e => by simp at e; exact ⟨n, t, e.symm, rfl⟩
  | _, _, i + 1, v, .cons n t r, e => by obtain ⟨m, u, a, b⟩ := ints_of r (by simpa using e); exact ⟨m, u, a, by simpa using b⟩
noncomputable def toldRows (tb : Tab) : List T := tb.map fun p => .tup [.int p.1, .int p.2.1, told p.2.2]
noncomputable def toldSh (tb : Tab) (tr : D) : T := .tup [.tup (toldRows tb), told tr]
theorem tolds_spec (W : Wd (KK w.params) h₀) (R : Rm A 20) (S : St h₀ I C h) (hs : ShelfF w I x tb tr) (q : ∀ v I' h' tk', Le I I' → IsTv I' 15 (toldSh tb tr) v → St h₀ I' C h' → Q v (sh b h' tk')) :
    wpAny (model P0 w) A (call (.ref 353) [.ref x]) Q E (sh b h tk) := by
  refine callF (binds := [(Str.ofString "self", .ref x)]) (lo := []) (cl := fun L => [(Str.ofString "self", L + 1)]) (cs := fun L => [(L + 1, .ref x)])
    W R S (f_Shelf_told w.params) (fun pm => BindsTo.of_eq (by kernel_rfl)) (by kernel_rfl) (by decide +kernel) (fun L => by kernel_rfl) (by kernel_rfl) (fun L => by kernel_rfl) rfl rfl rfl fun A' L I1 h1 tk1 R' k1 hcs S1 => ?_
  have c1 : CellF I1 (L + 1) (.ref x) := hcs (L + 1, .ref x) (by simp)
  clear hcs
  replace hs := hs.le k1
  obtain ⟨l, t, kvs, vt, hi, at1, at2, ht, htr, hm⟩ := hs.ex
  refine wpAny_execs_cons ?_
  walk_at "g"
  refine compF (h₀ := h₀) (cl := [(Str.ofString "self", L + 1)]) R'.hd (by kernel_rfl) (by kernel_rfl) rfl (by kernel_rfl) (by kernel_rfl) fun HP hHP => ?_
  walk_at "g"
  refine getNumbers W (R'.less (by omega)) S1 hs fun a vs I2 h2 tk2 k2 hl hv S2 => ?_
  clear S1
  replace c1 := c1.le k2
  obtain ⟨ol, hol, hlo⟩ := hl
  refine itList S2 hol hlo fun it h5 tk5 N HI S5 => ?_
  clear S2
  have hvl : vs.length = tb.length := by rw [hv.length, List.length_map]
  refine hHP ⟨it, I2, I2, _, _, N, h5, tk5, _, b, fun i I' ys C' => All2 (IsTv I' 13) ((toldRows tb).take i) ys ∧ C' = (L, Loc []) :: C, rfl, rfl, HI, by rw [List.size_toArray, hvl]; have := hs.ok.ln; omega, Le.rfl, S5, ⟨.nil, rfl⟩, ?_, ?_⟩
  · rintro i I' ys C' Lc acc h tk v hi' ⟨hys, rfl⟩ k3 hv' S6 Nx hNx
    obtain ⟨m, tm, rfl, hm2⟩ := ints_of hv (show vs[i]? = some v by simpa using hv')
    obtain ⟨⟨k, g, d⟩, hp, hpk⟩ : ∃ p, tb[i]? = some p ∧ p.1 = m := by
      rw [List.getElem?_map] at hm2
      cases e : tb[i]? with
      | none => rw [e] at hm2; cases hm2
      | some p => rw [e] at hm2; exact ⟨p, rfl, by simpa using hm2⟩
    obtain rfl : k = m := hpk
    obtain ⟨t', u, v', e1, e2, e3⟩ := tab_look ht.al (look_at hs.ok.pw hp)
    have kk := k2.trans k3
    replace c1 := c1.le k3
    refine wpAny_tests_nil ?_
    walk_at "g"
    refine getTb W S6 (hi.le kk) at1 (by rfl) fun tk6 => ?_
    walk_at "g"
    refine subD (ht.dic.le kk) S6 intKey_is e1 fun tk7 => ?_
    walk_at "g"
    refine itemT (e2.le kk) S6 (by decide) (by decide) (v := .int g u) rfl ?_
    walk_at "g"
    refine getTb W S6 (hi.le kk) at1 (by rfl) fun tk8 => ?_
    walk_at "g"
    refine subD (ht.dic.le kk) S6 intKey_is e1 fun tk9 => ?_
    walk_at "g"
    refine itemT (e2.le kk) S6 (by decide) (by decide) (v := v') rfl ?_
    walk_at "g"
    walk_at "k"
    refine told_spec 6 W (R'.less (by omega)) S6 (e3.le kk) fun v2 I3 h6 tk10 k4 hv2 S7 => ?_
    walk_at "g"
    refine tupN S7 (by simp) fun xt I4 h7 k5 ixt S8 => ?_
    refine hNx ⟨I4, _, h7, _, rfl, k4.trans k5, ⟨?_, rfl⟩, S8⟩
    have e : (toldRows tb)[i]? = some (.tup [.int k, .int g, told d]) := by unfold toldRows; rw [List.getElem?_map, hp]; rfl
    rw [take_snoc e]
    exact (hys.imp fun _ _ y => y.le (k4.trans k5)).snoc ⟨xt, _, rfl, ixt, .cons ⟨_, rfl⟩ (.cons ⟨_, rfl⟩ (.cons (hv2.le k5) .nil))⟩
  · rintro I' ys C' acc h tk ⟨hys, rfl⟩ k3 S6
    rw [List.take_of_length_le (by rw [List.size_toArray, hvl]; unfold toldRows; rw [List.length_map]; exact Nat.le_refl _)] at hys
    obtain ⟨I3, k4, hl3, S7⟩ := S6.frzL
    replace c1 := c1.le (k3.trans k4)
    walk_at "g"
    refine tupOf S7 hl3 (by rw [← hys.len]; unfold toldRows; rw [List.length_map]; have := hs.ok.ln; omega) fun x2 I4 h6 k5 ix2 S8 => ?_
    replace c1 := c1.le k5
    walk_at "s"; intro h7 tk7 S9; clear S8
    have kk : Le I1 I4 := k2.trans (k3.trans (k4.trans k5))
    walk_at "g"
    refine getTr W S9 (hi.le kk) at2 (handD htr) fun tk8 => ?_
    walk_at "g"
    walk_at "k"
    refine told_spec 6 W (R'.less (by omega)) S9 (htr.le kk) fun v2 I5 h8 tk10 k6 hv2 S10 => ?_
    walk_at "g"
    refine tupN S10 (by simp) fun xt I6 h9 k7 ixt S11 => ?_
    exact q _ _ _ _ (k1.trans (kk.trans (k6.trans k7))) ⟨xt, _, rfl, ixt, .cons ⟨x2, ys, rfl, ix2.le (k6.trans k7), hys.imp fun _ _ y => y.le (k4.trans (k5.trans (k6.trans k7)))⟩ (.cons (IsTv.to (m := 14) (hv2.le k7) (by decide)) .nil)⟩ S11.tail
end
end
section -- X1
open PySem PySem.W PyProof.Rows PySem.Calls PySem.Spec PySem.SeqAt
set_option maxRecDepth 100000
set_option linter.unusedVariables false
theorem sb_int : isSubtype (.type "int") (.type "bytes") = pure false := by rw [isSubtype_type]; kernel_rfl
theorem sb_str : isSubtype (.type "str") (.type "bytes") = pure false := by rw [isSubtype_type]; kernel_rfl
theorem sb_list : isSubtype (.type "list") (.type "bytes") = pure false := by rw [isSubtype_type]; kernel_rfl
theorem sb_tuple : isSubtype (.type "tuple") (.type "bytes") = pure false := by rw [isSubtype_type]; kernel_rfl
theorem bs_int : isSubtype (.type "bytes") (.type "int") = pure false := by rw [isSubtype_type]; kernel_rfl
theorem bs_str : isSubtype (.type "bytes") (.type "str") = pure false := by rw [isSubtype_type]; kernel_rfl
theorem bs_list : isSubtype (.type "bytes") (.type "list") = pure false := by rw [isSubtype_type]; kernel_rfl
theorem bs_tuple : isSubtype (.type "bytes") (.type "tuple") = pure false := by rw [isSubtype_type]; kernel_rfl
theorem bb : isSubtype (.type "bytes") (.type "bytes") = pure true := by rw [isSubtype_type]; kernel_rfl
section
variable {prog : Program} {w : World} {A : Around} {E : Value → Shared → Prop} {s : Shared} {o : Array UInt8} {t : Tok} {x : Value} {T : String}
theorem bytes_dec (hT : ∀ s' : Shared, s'.heap = s.heap → s'.TypeIs x T) (hs : isSubtype (.type T) (.type "bytes") = pure false) {Q : Value → Shared → Prop} (q : Q .notImplemented s) : wpAny (model prog w) A (call (.builtin "bytes.__eq__") [.bytes o t, x]) Q E s := by
  refine wpAny_call_entry FB.slot_bytes_eq (typeIs_bytes _ _ _) FB.entry_bytes_eq ?_ (FB.args_bytes_eq_2 _ _)
  obtain ⟨hp, g, d, tk, os⟩ := s
  have f1 := bb
  have h1 := hT ⟨hp, g, d, tk, os⟩ rfl
  wp_walk
  exact ⟨_, rfl, q⟩
theorem int_dec {i : Int} {u : Tok} {Q : Value → Shared → Prop} (q : Q .notImplemented s) : wpAny (model prog w) A (call (.builtin "int.__eq__") [.int i u, .bytes o t]) Q E s := by
  refine wpAny_call_entry F.slot_int_eq (typeIs_int _ _ _) F.entry_int_eq ?_ (F.args_int_eq_2 _ _)
  obtain ⟨hp, g, d, tk, os⟩ := s
  have f1 := bs_int
  wp_walk
  exact ⟨_, rfl, q⟩
theorem str_dec {i : Str} {u : Tok} {Q : Value → Shared → Prop} (q : Q .notImplemented s) : wpAny (model prog w) A (call (.builtin "str.__eq__") [.str i u, .bytes o t]) Q E s := by
  refine wpAny_call_entry F.slot_str_eq (typeIs_str _ _ _) F.entry_str_eq ?_ (F.args_str_eq_2 _ _)
  obtain ⟨hp, g, d, tk, os⟩ := s
  have f1 := bs_str
  wp_walk
  exact ⟨_, rfl, q⟩
theorem list_dec {a : Addr} {items : Array Value} {Q : Value → Shared → Prop} (hl : s.heap.IsList a items) (q : Q .notImplemented s) : wpAny (model prog w) A (call (.builtin "list.__eq__") [.ref a, .bytes o t]) Q E s := by
  obtain ⟨⟨cls, dd, data, sl⟩, ho, hc, n, hd⟩ := id hl
  simp only at hc hd
  subst hc hd
  refine wpAny_call_entry F.slot_list_eq ⟨_, ho, rfl⟩ F.entry_list_eq ?_ (F.args_list_eq_2 _ _)
  obtain ⟨hp, g, d, tk, os⟩ := s
  have f1 := bs_list
  wp_walk using wpAny_loadPart' ho
  exact ⟨_, rfl, q⟩
theorem tuple_dec {a : Addr} {items : Array Value} {Q : Value → Shared → Prop} (hl : s.heap.IsTuple a items) (q : Q .notImplemented s) : wpAny (model prog w) A (call (.builtin "tuple.__eq__") [.ref a, .bytes o t]) Q E s := by
  obtain ⟨⟨cls, dd, data, sl⟩, ho, hc, n, hd⟩ := id hl
  simp only at hc hd
  subst hc hd
  refine wpAny_call_entry F.slot_tuple_eq ⟨_, ho, rfl⟩ F.entry_tuple_eq ?_ (F.args_tuple_eq_2 _ _)
  obtain ⟨hp, g, d, tk, os⟩ := s
  have f1 := bs_tuple
  wp_walk using wpAny_loadPart' ho
  exact ⟨_, rfl, q⟩
end
section
variable {A : Around} {s : Shared} {o : Array UInt8} {t : Tok} {x : Value} {T ida : String}
theorem eq_of_rc1 {b : Value} {k : Bool} (hne : .bytes o t ≠ b) (h : RcAt A s (.bytes o t) b k) : EqAt A s (.bytes o t) b k := fun prog w E Q hq => by
  unfold eqBool
  refine wpAny_holding ?_
  refine wpAny_ite_split (fun hab => absurd (eq_of_beq hab) hne) (fun _ => ?_)
  cases b <;> exact wpAny_bind (h prog w E _ (wpAny_truthy_bool hq))
theorem eq_of_rc2 {a : Value} {k : Bool} (hne : a ≠ .bytes o t) (h : RcAt A s a (.bytes o t) k) : EqAt A s a (.bytes o t) k := fun prog w E Q hq => by
  unfold eqBool
  refine wpAny_holding ?_
  refine wpAny_ite_split (fun hab => absurd (eq_of_beq hab) hne) (fun _ => ?_)
  cases a <;> exact wpAny_bind (h prog w E _ (wpAny_truthy_bool hq))
theorem mix1 (hT : ∀ s' : Shared, s'.heap = s.heap → s'.TypeIs x T) (hn : (Value.type "bytes" != Value.type T) = true) (h1 : isSubtype (.type T) (.type "bytes") = pure false) (sl : Slot T (cmpInfo .Eq).2.2 ida)
    (hc : ∀ (prog : Program) (w : World) (E : Value → Shared → Prop) (Q : Value → Shared → Prop), Q .notImplemented s → wpAny (model prog w) A (call (.builtin ida) [x, .bytes o t]) Q E s)
    (hs : isSame (.bytes o t) x = pure false) (hne : Value.bytes o t ≠ x) (hu : A.units < cLine) : EqAt A s (.bytes o t) x false :=
  eq_of_rc1 hne fun prog w E Q hq => rc_eq_decline_or (k := false) (typeIs_bytes _ _ _) (hT s rfl) hn h1 FB.slot_bytes_eq sl (fun _ q => bytes_dec hT h1 q) (fun _ q => hc prog w E _ q) (fun _ q => wpAny_of_eq hs q) (.inr hu) hq
theorem mix2 (hT : ∀ s' : Shared, s'.heap = s.heap → s'.TypeIs x T) (hn : (Value.type T != Value.type "bytes") = true) (h1 : isSubtype (.type "bytes") (.type T) = pure false) (h2 : isSubtype (.type T) (.type "bytes") = pure false) (sl : Slot T (cmpInfo .Eq).2.1 ida)
    (hc : ∀ (prog : Program) (w : World) (E : Value → Shared → Prop) (Q : Value → Shared → Prop), Q .notImplemented s → wpAny (model prog w) A (call (.builtin ida) [x, .bytes o t]) Q E s)
    (hs : isSame x (.bytes o t) = pure false) (hne : x ≠ Value.bytes o t) (hu : A.units < cLine) : EqAt A s x (.bytes o t) false :=
  eq_of_rc2 hne fun prog w E Q hq => rc_eq_decline_or (k := false) (hT s rfl) (typeIs_bytes _ _ _) hn h1 sl FB.slot_bytes_eq (fun _ q => hc prog w E _ q) (fun _ q => bytes_dec hT h2 q) (fun _ q => wpAny_of_eq hs q) (.inr hu) hq
theorem eq_byt {c : Array UInt8} {u : Tok} : EqAt A s (.bytes o t) (.bytes c u) (decide (o = c)) := fun prog w E Q hq => PySem.W.eqBool_bytes (by
  have e : decide (o.toList = c.toList) = decide (o = c) := by
    by_cases h : o = c
    · rw [decide_eq_true h, decide_eq_true (by rw [h])]
    · rw [decide_eq_false h, decide_eq_false (fun q => h (Array.toList_inj.mp q))]
  rw [e]; exact hq)
end
theorem All2.get {α β : Type} {R : α → β → Prop} : ∀ {l : List α} {m : List β} {j : Nat} (h1 : j < l.length) (h2 : j < m.length), All2 R l m → R l[j] m[j]
  | _ :: _, _ :: _, 0, _, _, .cons x _ => x
  | _ :: _, _ :: _, j + 1, h1, h2, .cons _ y => y.get (by simpa using h1) (by simpa using h2)
section
variable {s : Shared} {I : Fz}
theorem tv_det (hI : ∀ a o, I a o → s.heap.get? a = some o) : ∀ (n m : Nat) {t u : T} {v : Value}, IsTv I n t v → IsTv I m u v → t = u := by
  intro n
  induction n with
  | zero => intro m t u v a b; exact a.elim
  | succ n ih =>
    intro m t u v a b
    cases m with
    | zero => exact b.elim
    | succ m =>
    have all : ∀ {l k : List T} {vs : List Value}, All2 (IsTv I n) l vs → All2 (IsTv I m) k vs → l = k := by
      intro l k vs x
      induction x generalizing k with
      | nil => intro y; cases y; rfl
      | cons p _ ih2 => intro y; cases y with | cons q y => rw [ih m p q, ih2 y]
    cases t with
    | str i => obtain ⟨c, rfl⟩ := a; cases u <;> first | (obtain ⟨_, e⟩ := b; cases e <;> rfl) | (obtain ⟨_, _, e, _⟩ := b; cases e <;> rfl)
    | int i => obtain ⟨c, rfl⟩ := a; cases u <;> first | (obtain ⟨_, e⟩ := b; cases e <;> rfl) | (obtain ⟨_, _, e, _⟩ := b; cases e <;> rfl)
    | byt i => obtain ⟨c, rfl⟩ := a; cases u <;> first | (obtain ⟨_, e⟩ := b; cases e <;> rfl) | (obtain ⟨_, _, e, _⟩ := b; cases e <;> rfl)
    | tup l =>
      obtain ⟨x, vs, rfl, h1, h2⟩ := a
      cases u with
      | tup k =>
        obtain ⟨y, ws, e, h3, h4⟩ := b
        cases e
        have e2 := (hI _ _ h1).symm.trans (hI _ _ h3)
        simp at e2; subst e2
        rw [all h2 h4]
      | lst k =>
        obtain ⟨y, ws, e, ⟨o, h3, h5, _⟩, h4⟩ := b
        cases e
        have e2 := (hI _ _ h1).symm.trans (hI _ _ h3)
        cases e2
        exact absurd h5 (by simp)
      | _ => obtain ⟨_, e⟩ := b; cases e
    | lst l =>
      obtain ⟨x, vs, rfl, ⟨o, h1, h6, n1, h7⟩, h2⟩ := a
      cases u with
      | tup k =>
        obtain ⟨y, ws, e, h3, h4⟩ := b
        cases e
        have e2 := (hI _ _ h1).symm.trans (hI _ _ h3)
        cases e2
        exact absurd h6 (by simp)
      | lst k =>
        obtain ⟨y, ws, e, ⟨o', h3, h5, n2, h8⟩, h4⟩ := b
        cases e
        have e2 := (hI _ _ h1).symm.trans (hI _ _ h3)
        cases e2
        rw [h7] at h8
        simp at h8
        obtain ⟨h8, _⟩ := h8
        subst h8
        rw [all h2 h4]
      | _ => obtain ⟨_, e⟩ := b; cases e
open Classical in
theorem all_dec {l m : List T} : ((List.range (min l.length m.length)).all (fun j => decide (l[j]? = m[j]?)) && l.length == m.length) = decide (l = m) := by
  rw [Bool.eq_iff_iff, Bool.and_eq_true, decide_eq_true_eq, List.all_eq_true, beq_iff_eq]
  refine ⟨fun ⟨h, e⟩ => List.ext_getElem? fun j => ?_, fun e => by subst e; simp⟩
  by_cases hj : j < l.length
  · have := h j (List.mem_range.mpr (by omega))
    simpa using this
  · rw [List.getElem?_eq_none (by omega), List.getElem?_eq_none (by omega)]
open Classical in
theorem eqT (hI : ∀ a o, I a o → s.heap.get? a = some o) : ∀ (n m : Nat) {A : Around} {t u : T} {v x : Value}, IsTv I n t v → IsTv I m u x → A.units + n + 2 < cLine → EqAt A s v x (decide (t = u)) := by
  intro n
  induction n with
  | zero => intro m A t u v x a b hu; exact a.elim
  | succ n ih =>
    intro m A t u v x a b hu
    cases m with
    | zero => exact b.elim
    | succ m =>
    have hu' : A.units < cLine := by omega
    have hn : A.in1.units + n + 2 < cLine := by show A.units + 1 + n + 2 < cLine; omega
    have el : ∀ {l k : List T} {vs ws : List Value}, All2 (IsTv I n) l vs → All2 (IsTv I m) k ws → ∀ j (h1 : j < vs.toArray.size) (h2 : j < ws.toArray.size), EqAt A.in1 s vs.toArray[j] ws.toArray[j] (decide (l[j]? = k[j]?)) := by
      intro l k vs ws x y j h1 h2
      have e1 : j < l.length := by rw [x.len]; simpa using h1
      have e2 : j < k.length := by rw [y.len]; simpa using h2
      have := ih m (A := A.in1) (x.get e1 (by simpa using h1)) (y.get e2 (by simpa using h2)) hn
      rw [List.getElem?_eq_getElem e1, List.getElem?_eq_getElem e2]
      simpa using this
    cases t with
    | str i =>
      obtain ⟨c, rfl⟩ := a
      cases u with
      | str j => obtain ⟨c2, rfl⟩ := b; have := EqAt.str_str (A := A) (s := s) i c j c2; rwa [show (i == j) = decide (T.str i = T.str j) by by_cases h : i = j <;> simp [h]] at this
      | int j => obtain ⟨c2, rfl⟩ := b; rw [decide_eq_false (by simp)]; exact EqAt.str_int _ _ _ _
      | byt j => obtain ⟨c2, rfl⟩ := b; rw [decide_eq_false (by simp)]; exact mix2 (T := "str") (fun s' _ => typeIs_str s' i c) (by decide) bs_str sb_str F.slot_str_eq (fun _ _ _ _ q => str_dec q) rfl (by simp) hu'
      | tup k => obtain ⟨y, ws, rfl, h3, _⟩ := b; rw [decide_eq_false (by simp)]; exact EqAt.str_tuple _ _ (items := ws.toArray) ⟨_, hI _ _ h3, rfl, _, rfl⟩ hu'
      | lst k => obtain ⟨y, ws, rfl, ⟨o, h3, h5⟩, _⟩ := b; rw [decide_eq_false (by simp)]; exact EqAt.str_list _ _ (items := ws.toArray) ⟨_, hI _ _ h3, h5⟩ hu'
    | int i =>
      obtain ⟨c, rfl⟩ := a
      cases u with
      | str j => obtain ⟨c2, rfl⟩ := b; rw [decide_eq_false (by simp)]; exact EqAt.int_str _ _ _ _
      | int j => obtain ⟨c2, rfl⟩ := b; have := EqAt.int_int (A := A) (s := s) i c j c2; rwa [show (i == j) = decide (T.int i = T.int j) by by_cases h : i = j <;> simp [h]] at this
      | byt j => obtain ⟨c2, rfl⟩ := b; rw [decide_eq_false (by simp)]; exact mix2 (T := "int") (fun s' _ => typeIs_int s' i c) (by decide) bs_int sb_int F.slot_int_eq (fun _ _ _ _ q => int_dec q) rfl (by simp) hu'
      | tup k => obtain ⟨y, ws, rfl, h3, _⟩ := b; rw [decide_eq_false (by simp)]; exact EqAt.int_tuple _ _ (items := ws.toArray) ⟨_, hI _ _ h3, rfl, _, rfl⟩ hu'
      | lst k => obtain ⟨y, ws, rfl, ⟨o, h3, h5⟩, _⟩ := b; rw [decide_eq_false (by simp)]; exact EqAt.int_list _ _ (items := ws.toArray) ⟨_, hI _ _ h3, h5⟩ hu'
    | byt i =>
      obtain ⟨c, rfl⟩ := a
      cases u with
      | str j => obtain ⟨c2, rfl⟩ := b; rw [decide_eq_false (by simp)]; exact mix1 (T := "str") (fun s' _ => typeIs_str s' j c2) (by decide) sb_str F.slot_str_eq (fun _ _ _ _ q => str_dec q) rfl (by simp) hu'
      | int j => obtain ⟨c2, rfl⟩ := b; rw [decide_eq_false (by simp)]; exact mix1 (T := "int") (fun s' _ => typeIs_int s' j c2) (by decide) sb_int F.slot_int_eq (fun _ _ _ _ q => int_dec q) rfl (by simp) hu'
      | byt j => obtain ⟨c2, rfl⟩ := b; have := eq_byt (A := A) (s := s) (o := i) (t := c) (c := j) (u := c2); rwa [show decide (i = j) = decide (T.byt i = T.byt j) by by_cases h : i = j <;> simp [h]] at this
      | tup k =>
        obtain ⟨y, ws, rfl, h3, _⟩ := b
        have hT : s.heap.IsTuple y ws.toArray := ⟨_, hI _ _ h3, rfl, _, rfl⟩
        rw [decide_eq_false (by simp)]; exact mix1 (T := "tuple") (fun s' e => ⟨_, by rw [e]; exact hI _ _ h3, rfl⟩) (by decide) sb_tuple F.slot_tuple_eq (fun _ _ _ _ q => tuple_dec hT q) rfl (by simp) hu'
      | lst k =>
        obtain ⟨y, ws, rfl, ⟨o, h3, h5⟩, _⟩ := b
        have hT : s.heap.IsList y ws.toArray := ⟨_, hI _ _ h3, h5⟩
        rw [decide_eq_false (by simp)]; exact mix1 (T := "list") (fun s' e => ⟨_, by rw [e]; exact hI _ _ h3, h5.1⟩) (by decide) sb_list F.slot_list_eq (fun _ _ _ _ q => list_dec hT q) rfl (by simp) hu'
    | tup l =>
      obtain ⟨xa, vs, rfl, h1, h2⟩ := id a
      have hX : s.heap.IsTuple xa vs.toArray := ⟨_, hI _ _ h1, rfl, _, rfl⟩
      cases u with
      | str j => obtain ⟨c2, rfl⟩ := b; rw [decide_eq_false (by simp)]; exact EqAt.tuple_str _ _ hX hu'
      | int j => obtain ⟨c2, rfl⟩ := b; rw [decide_eq_false (by simp)]; exact EqAt.tuple_int _ _ hX hu'
      | byt j => obtain ⟨c2, rfl⟩ := b; rw [decide_eq_false (by simp)]; exact mix2 (T := "tuple") (fun s' e => ⟨_, by rw [e]; exact hI _ _ h1, rfl⟩) (by decide) bs_tuple sb_tuple F.slot_tuple_eq (fun _ _ _ _ q => tuple_dec hX q) rfl (by simp) hu'
      | tup k =>
        obtain ⟨y, ws, rfl, h3, h4⟩ := id b
        by_cases e : xa = y
        · subst e
          rw [tv_det hI _ _ a b, decide_eq_true rfl]; exact EqAt.same _
        · have := EqAt.of_refs e (RcAt.tuples (s := s) hX (⟨_, hI _ _ h3, rfl, _, rfl⟩ : s.heap.IsTuple y ws.toArray) hu' (el h2 h4))
          rw [List.size_toArray, List.size_toArray, ← h2.len, ← h4.len, all_dec] at this
          rwa [show decide (T.tup l = T.tup k) = decide (l = k) by by_cases h : l = k <;> simp [h]]
      | lst k =>
        obtain ⟨y, ws, rfl, ⟨o, h3, h5⟩, _⟩ := b
        rw [decide_eq_false (by simp)]; exact EqAt.tuple_list hX (⟨_, hI _ _ h3, h5⟩ : s.heap.IsList y ws.toArray) hu'
    | lst l =>
      obtain ⟨xa, vs, rfl, ⟨o1, h1, h6⟩, h2⟩ := id a
      have hX : s.heap.IsList xa vs.toArray := ⟨_, hI _ _ h1, h6⟩
      cases u with
      | str j => obtain ⟨c2, rfl⟩ := b; rw [decide_eq_false (by simp)]; exact EqAt.list_str _ _ hX hu'
      | int j => obtain ⟨c2, rfl⟩ := b; rw [decide_eq_false (by simp)]; exact EqAt.list_int _ _ hX hu'
      | byt j => obtain ⟨c2, rfl⟩ := b; rw [decide_eq_false (by simp)]; exact mix2 (T := "list") (fun s' e => ⟨_, by rw [e]; exact hI _ _ h1, h6.1⟩) (by decide) bs_list sb_list F.slot_list_eq (fun _ _ _ _ q => list_dec hX q) rfl (by simp) hu'
      | tup k =>
        obtain ⟨y, ws, rfl, h3, _⟩ := b
        rw [decide_eq_false (by simp)]; exact EqAt.list_tuple hX (⟨_, hI _ _ h3, rfl, _, rfl⟩ : s.heap.IsTuple y ws.toArray) hu'
      | lst k =>
        obtain ⟨y, ws, rfl, ⟨o2, h3, h5⟩, h4⟩ := id b
        have hY : s.heap.IsList y ws.toArray := ⟨_, hI _ _ h3, h5⟩
        by_cases e : xa = y
        · subst e
          rw [tv_det hI _ _ a b, decide_eq_true rfl]; exact EqAt.same _
        · rw [show decide (T.lst l = T.lst k) = decide (l = k) by by_cases h : l = k <;> simp [h]]
          by_cases hz : vs.toArray.size = ws.toArray.size
          · have := EqAt.of_refs e (RcAt.lists (s := s) hX hY hz hu' (el h2 h4))
            have e3 : l.length = k.length := by rw [h2.len, h4.len]; simpa using hz
            have e4 := all_dec (l := l) (m := k)
            rw [e3, Nat.min_self, beq_self_eq_true, Bool.and_true] at e4
            rw [List.size_toArray, ← h2.len, e3, e4] at this
            exact this
          · rw [decide_eq_false (fun q => hz (by rw [List.size_toArray, List.size_toArray, ← h2.len, ← h4.len, q]))]
            exact EqAt.of_refs e (RcAt.lists_lengths hX hY (by simpa using hz) hu')
end
end
section -- X2
open PySem PySem.W PyProof.Rows PySem.Calls PySem.Spec PySem.SeqAt
set_option maxRecDepth 100000
set_option linter.unusedVariables false
section
variable {w : World} {A : Around} {E : Value → Shared → Prop} {b : Bs} {h : Heap} {tk : Nat} {h₀ : Heap} {I : Fz} {C : List Cell} {Q : Value → Shared → Prop} {n m : Nat} {x y : Addr} {l k : List T}
open Classical in
theorem el_at (hI : ∀ a o, I a o → h.get? a = some o) (hn : A.units + n + 3 < cLine) {vs ws : List Value} (X : All2 (IsTv I n) l vs) (Y : All2 (IsTv I m) k ws) :
    ∀ j (h1 : j < vs.toArray.size) (h2 : j < ws.toArray.size), EqAt A.in1 (sh b h tk) vs.toArray[j] ws.toArray[j] (decide (l[j]? = k[j]?)) := by
  intro j h1 h2
  have e1 : j < l.length := by rw [X.len]; simpa using h1
  have e2 : j < k.length := by rw [Y.len]; simpa using h2
  have := eqT (s := sh b h tk) hI n m (A := A.in1) (X.get e1 (by simpa using h1)) (Y.get e2 (by simpa using h2)) (by show A.units + 1 + n + 2 < cLine; omega)
  rw [List.getElem?_eq_getElem e1, List.getElem?_eq_getElem e2]
  simpa using this
open Classical in
theorem neTup (R : Rm A 5) (S : St h₀ I C h) (hn : n ≤ 300) (a : IsTv I (n + 1) (.tup l) (.ref x)) (c : IsTv I (m + 1) (.tup k) (.ref y)) (q : Q (.bool (!decide (l = k))) (sh b h tk)) : wpAny (model P0 w) A (compareOp .NotEq (.ref x) (.ref y)) Q E (sh b h tk) := by
  obtain ⟨x', vs, e, h1, h2⟩ := a
  cases e
  obtain ⟨y', ws, e, h3, h4⟩ := c
  cases e
  have hu := R.un'
  refine RcNeAt.tuples (s := sh b h tk) (h1.tup S) (h3.tup S) (by omega) (el_at S.fz (by omega) h2 h4) P0 w E Q ?_
  rw [List.size_toArray, List.size_toArray, ← h2.len, ← h4.len, all_dec]
  exact q
open Classical in
theorem eqTup (R : Rm A 5) (S : St h₀ I C h) (hn : n ≤ 300) (a : IsTv I (n + 1) (.tup l) (.ref x)) (c : IsTv I (m + 1) (.tup k) (.ref y)) (q : Q (.bool (decide (l = k))) (sh b h tk)) : wpAny (model P0 w) A (compareOp .Eq (.ref x) (.ref y)) Q E (sh b h tk) := by
  obtain ⟨x', vs, e, h1, h2⟩ := a
  cases e
  obtain ⟨y', ws, e, h3, h4⟩ := c
  cases e
  have hu := R.un'
  refine RcAt.tuples (s := sh b h tk) (h1.tup S) (h3.tup S) (by omega) (el_at S.fz (by omega) h2 h4) P0 w E Q ?_
  rw [List.size_toArray, List.size_toArray, ← h2.len, ← h4.len, all_dec]
  exact q
open Classical in
theorem eqLst (R : Rm A 5) (S : St h₀ I C h) (hn : n ≤ 300) (a : IsTv I (n + 1) (.lst l) (.ref x)) (c : IsTv I (m + 1) (.lst k) (.ref y)) (q : Q (.bool (decide (l = k))) (sh b h tk)) : wpAny (model P0 w) A (compareOp .Eq (.ref x) (.ref y)) Q E (sh b h tk) := by
  obtain ⟨x', vs, e, h1, h2⟩ := a
  cases e
  obtain ⟨y', ws, e, h3, h4⟩ := c
  cases e
  have hu := R.un'
  by_cases hz : vs.toArray.size = ws.toArray.size
  · refine RcAt.lists (s := sh b h tk) (h1.lst S) (h3.lst S) hz (by omega) (el_at S.fz (by omega) h2 h4) P0 w E Q ?_
    have e3 : l.length = k.length := by rw [h2.len, h4.len]; simpa using hz
    have e4 := all_dec (l := l) (m := k)
    rw [e3, Nat.min_self, beq_self_eq_true, Bool.and_true] at e4
    rw [List.size_toArray, ← h2.len, e3, e4]
    exact q
  · rw [decide_eq_false (fun q => hz (by rw [List.size_toArray, List.size_toArray, ← h2.len, ← h4.len, q]))] at q
    exact RcAt.lists_lengths (s := sh b h tk) (h1.lst S) (h3.lst S) (by simpa using hz) (by omega) P0 w E Q q
open Classical in
theorem neLst (R : Rm A 5) (S : St h₀ I C h) (hn : n ≤ 300) (a : IsTv I (n + 1) (.lst l) (.ref x)) (c : IsTv I (m + 1) (.lst k) (.ref y)) (q : Q (.bool (!decide (l = k))) (sh b h tk)) : wpAny (model P0 w) A (compareOp .NotEq (.ref x) (.ref y)) Q E (sh b h tk) := by
  obtain ⟨x', vs, e, h1, h2⟩ := a
  cases e
  obtain ⟨y', ws, e, h3, h4⟩ := c
  cases e
  have hu := R.un'
  by_cases hz : vs.toArray.size = ws.toArray.size
  · refine RcNeAt.lists (s := sh b h tk) (h1.lst S) (h3.lst S) hz (by omega) (el_at S.fz (by omega) h2 h4) P0 w E Q ?_
    have e3 : l.length = k.length := by rw [h2.len, h4.len]; simpa using hz
    have e4 := all_dec (l := l) (m := k)
    rw [e3, Nat.min_self, beq_self_eq_true, Bool.and_true] at e4
    rw [List.size_toArray, ← h2.len, e3, e4]
    exact q
  · rw [decide_eq_false (fun q => hz (by rw [List.size_toArray, List.size_toArray, ← h2.len, ← h4.len, q]))] at q
    exact RcNeAt.lists_lengths (s := sh b h tk) (h1.lst S) (h3.lst S) (by simpa using hz) (by omega) P0 w E Q q
theorem intsTv : ∀ {vs : List Value} {ns : List Int}, IntsAre vs ns → All2 (IsTv I 1) (ns.map T.int) vs
  | _, _, .nil => .nil
  | _, _, .cons n t r => .cons ⟨t, rfl⟩ (intsTv r)
theorem lstTv {vs : List Value} {ns : List Int} (hl : ListF I x vs) (hi : IntsAre vs ns) : IsTv I 2 (.lst (ns.map T.int)) (.ref x) := ⟨x, vs, rfl, hl, intsTv hi⟩
theorem mapInt_inj {ns ms : List Int} : ns.map T.int = ms.map T.int ↔ ns = ms :=
  ⟨fun e => by
    induction ns generalizing ms with
    | nil => cases ms with | nil => rfl | cons _ _ => cases e
    | cons a r ih => cases ms with | nil => cases e | cons c t => rw [List.map_cons, List.map_cons, List.cons.injEq] at e; rw [ih e.2]; have := e.1; simp at this; rw [this], fun e => by rw [e]⟩
/-- a dict with pairs as keys against an empty dict -/
theorem eqNil {xs ys : PX} (R : Rm A 5) (hx : h.DictOfH (pK w) x xs) (lx : (x == sysModules) = false) (hy : h.DictOfH (pK w) y ys) (ly : (y == sysModules) = false) (e0 : ys = []) (q : Q (.bool xs.isEmpty) (sh b h tk)) :
    wpAny (model P0 w) A (compareOp .Eq (.ref x) (.ref y)) Q E (sh b h tk) := by
  obtain ⟨oa, es, ep, hoa, ca, hda, he, _⟩ := hx
  obtain ⟨ob, es', ep', hob, cb, hdb, he', _⟩ := hy
  subst e0
  have z1 : es.size = xs.length := by rw [← Array.length_toList, he, List.length_map]
  have z2 : es'.size = 0 := by rw [← Array.length_toList, he']; rfl
  have T1 : Shared.TypeIs (sh b h tk) (.ref x) "dict" := ⟨oa, hoa, ca.1⟩
  have T2 : Shared.TypeIs (sh b h tk) (.ref y) "dict" := ⟨ob, hob, cb.1⟩
  refine wpAny_richCompare_same_room (op := .Eq) T1 T2 PySem.F.slot_dict_eq (wpAny_call_entry PySem.F.slot_dict_eq T1 PySem.F.entry_dict_eq ?_ (PySem.F.args_dict_eq_2 _ _)) (by have := R.un'; omega)
  show wpAny _ _ (Builtin.Dict.dictSlotArgs "__eq__" ⟨[.ref x, .ref y], []⟩ >>= _) _ _ _
  refine wpAny_bind ?_
  unfold Builtin.Dict.dictSlotArgs
  refine wpAny_bind (wpAny_notOrdered_dict T1 ?_)
  show wpAny _ _ (pure (Value.ref x, Value.ref y)) _ _ _
  refine wpAny_pure ?_
  refine wpAny_bind (wpAny_isInstance (T := "dict") T2 PySem.F.sub_dict_dict ?_)
  simp only [Bool.not_true, Bool.false_eq_true, if_false]
  refine wpAny_bind (wpAny_pure (wpAny_bind (wpAny_pure ?_)))
  refine wpAny_bind ?_
  unfold Builtin.Dict.samePairs Builtin.Dict.showsAll
  rw [if_neg (show ¬ (x == sysModules) = true by rw [lx]; exact Bool.false_ne_true), if_neg (show ¬ (y == sysModules) = true by rw [ly]; exact Bool.false_ne_true)]
  refine wpAny_bind (wpAny_pure (wpAny_bind (wpAny_pure ?_)))
  refine wpAny_bind (wpAny_dictEntries hoa hda ?_)
  dsimp only
  refine wpAny_bind (wpAny_dictEntries hob hdb ?_)
  cases xs with
  | cons p r =>
    rw [if_pos (by rw [z1, z2]; simp)]
    exact wpAny_bind (wpAny_rule (wpAny_pure (wpAny_pure ⟨_, rfl, ⟨fun x => Value.noConfusion x, q⟩⟩)))
  | nil =>
    have z3 : es.size = 0 := z1
    rw [if_neg (by rw [z3, z2]; simp)]
    refine wpAny_bind (wpAny_dictEpoch hoa hda ?_)
    refine wpAny_bind ?_
    rw [Std.Legacy.Range.forIn_eq_forIn_range', z3]
    refine wpAny_pure (wpAny_pure ?_)
    exact wpAny_pure ⟨_, rfl, ⟨fun x => Value.noConfusion x, q⟩⟩
end
end
section -- Y1
open PySem PySem.W PyProof.Rows PySem.Calls PySem.Spec PySem.SeqAt
set_option maxRecDepth 100000
set_option linter.unusedVariables false
theorem slot_by_repr : Slot "bytes" "__repr__" "bytes.__repr__" :=
  .of (owner := "bytes") (n := "__repr__") (by rw [typeLookup_type, builtinLookup_eq_fast]; kernel_rfl) (by decide +kernel) (by decide +kernel) (by decide +kernel)
    (by first | exact .inl (by decide +kernel) | exact .inr (by decide +kernel)) (by rw [isSubtype_type]; kernel_rfl)
theorem entry_by_repr : entryFor table "bytes.__repr__" = some Builtin.«bytes.__repr__» := entryFor_of_tree (by kernel_rfl)
theorem args_by_repr (a : Value) : argsOk "bytes.__repr__" ⟨[a], []⟩ := by
  unfold argsOk; rw [signature?_of (id := "bytes.__repr__") (n := ['_', '_', 'r', 'p', 'e', 'r', '_', '_']) (o := ['s', 'e', 't', 'y', 'b']) (by kernel_rfl) FB.owner_bytes]; kernel_rfl
theorem gives_by0 (t : Tok) : Gives (Builtin.«bytes.__repr__» ⟨[.bytes #[0] t], []⟩) (.str (sx "b'\\x00'")) := .of_eq (by kernel_rfl)
theorem gives_by1 (t : Tok) : Gives (Builtin.«bytes.__repr__» ⟨[.bytes #[1] t], []⟩) (.str (sx "b'\\x01'")) := .of_eq (by kernel_rfl)
noncomputable def bytS (o : Array UInt8) : Str := if o = #[0] then sx "b'\\x00'" else sx "b'\\x01'"
section
variable {prog : Program} {w : World}
theorem reprIs_byt {o : Array UInt8} {t : Tok} (h : o = #[0] ∨ o = #[1]) : ReprIs prog w (.bytes o t) (bytS o) := fun n hn A E s Q hQ => by
  have hn' : n ≤ sizeLine := by omega
  rw [pyReprUnder_leaf (v := .bytes o t) hn' (fun _ e => nomatch e)]
  unfold pyRepr
  rcases h with rfl | rfl
  · exact wpAny_bind (wpAny_pyReprObj_gives (typeIs_bytes _ _ _) slot_by_repr entry_by_repr (args_by_repr _) (gives_by0 t) (wpAny_pure (hQ _)) (hx := by rw [sizeLine_eq]; decide +kernel))
  · exact wpAny_bind (wpAny_pyReprObj_gives (typeIs_bytes _ _ _) slot_by_repr entry_by_repr (args_by_repr _) (gives_by1 t) (wpAny_pure (hQ _)) (hx := by rw [sizeLine_eq]; decide +kernel))
end
noncomputable def words : List Str := okNames ++ okSorted ++ [sx "null", sx "int", sx "name", sx "ref", sx "array", sx "dict", sx "stream"]
noncomputable def TW : Nat → T → Prop
  | 0, _ => False
  | _ + 1, .str s => s ∈ words
  | _ + 1, .int i => smallI i
  | _ + 1, .byt o => o = #[0] ∨ o = #[1]
  | n + 1, .tup l => ∀ t ∈ l, TW n t
  | _ + 1, .lst _ => False
mutual
noncomputable def tdep : T → Nat
  | .tup l => tdeps l + 1
  | .lst l => tdeps l + 1
  | _ => 0
noncomputable def tdeps : List T → Nat
  | [] => 0
  | t :: r => max (tdep t) (tdeps r)
end
theorem word_len : ∀ s ∈ words, (reprText s).length ≤ 8 := by decide +kernel
theorem int_len : ∀ i ∈ List.range 50, (toString (i : Int) : Str).length ≤ 2 := by decide +kernel
theorem small_len {i : Int} (h : smallI i) : (toString i : Str).length ≤ 2 := by
  obtain ⟨k, rfl⟩ := Int.eq_ofNat_of_zero_le h.1
  exact int_len k (List.mem_range.mpr (by have := h.2; omega))
theorem tup_len {ts : List Str} : (tupleText ts).length ≤ piled ts + 3 := by
  unfold tupleText
  rw [strLen_append, strLen_append]
  have h1 : ("(" : Str).length = 1 := by decide +kernel
  have h2 : ((if ts.length == 1 then ",)" else ")" : String) : Str).length ≤ 2 := by split <;> decide +kernel
  by_cases h : ts = []
  · subst h; have : (Str.join ", " []).length = 0 := by decide +kernel
    omega
  · have := join_length_add ts h; omega
section
variable {w : World} {A : Around} {E : Value → Shared → Prop} {b : Bs} {h : Heap} {tk : Nat} {h₀ : Heap} {I : Fz} {C : List Cell} {Q : Value → Shared → Prop} {n : Nat} {d : D} {v : Value}
noncomputable def Deep (I : Fz) (n : Nat) (bs : List Addr) : Prop := ∀ b ∈ bs, ∃ m t, IsTv I m t (.ref b) ∧ tdep t ≤ n
theorem repr_list {m : Nat} (ih : ∀ (m : Nat) (t : T) (v : Value), IsTv I n t v → TW m t → ∃ bs, Deep I (tdep t) bs ∧ ReprK P0 w bs h n v (shownT t)) {l : List T} {vs : List Value} (z : All2 (IsTv I n) l vs) : (∀ t ∈ l, TW m t) → ∃ bs, Deep I (tdeps l) bs ∧ ReprAllK P0 w bs h n vs (shownTs l) := by
  induction z with
  | nil => intro _; exact ⟨[], (by intro b hb; cases hb), .nil⟩
  | cons p _ ih2 =>
    intro hw
    obtain ⟨b1, d1, k1⟩ := ih m _ _ p (hw _ (.head _))
    obtain ⟨b2, d2, k2⟩ := ih2 fun t ht => hw t (.tail _ ht)
    refine ⟨b1 ++ b2, fun b hb => ?_, ?_⟩
    · rw [tdeps]
      rcases List.mem_append.mp hb with hb | hb
      · obtain ⟨m', t', q1, q2⟩ := d1 b hb; exact ⟨m', t', q1, Nat.le_trans q2 (Nat.le_max_left _ _)⟩
      · obtain ⟨m', t', q1, q2⟩ := d2 b hb; exact ⟨m', t', q1, Nat.le_trans q2 (Nat.le_max_right _ _)⟩
    · exact .cons (k1.more fun b hb => List.mem_append_left _ hb) (k2.more_le (fun b hb => List.mem_append_right _ hb) (Nat.le_refl _))
theorem repr_na (S : St h₀ I C h) {l : List T} {a : Addr} {bs : List Addr} (x : IsTv I (n + 1) (.tup l) (.ref a)) (hd : Deep I (tdeps l) bs) : a ∉ bs := fun hm => by
  obtain ⟨m', t', q1, q2⟩ := hd a hm
  have e := tv_det (s := ⟨h, #[], {}, 0, {}⟩) S.fz _ _ q1 x
  rw [e, tdep] at q2
  omega
theorem repr_k (S : St h₀ I C h) : ∀ (n m : Nat) {t : T} {v : Value}, IsTv I n t v → TW m t → ∃ bs, Deep I (tdep t) bs ∧ ReprK P0 w bs h n v (shownT t) := by
  intro n
  induction n with
  | zero => intro m t v x y; exact x.elim
  | succ n ih =>
    intro m t v x y
    cases m with
    | zero => exact y.elim
    | succ m =>
    cases t with
    | str s => obtain ⟨c, rfl⟩ := x; exact ⟨[], (by intro b hb; cases hb), .of_is (ReprIs.str s c (by have := word_len s y; rw [sizeLine_eq]; omega)) _ _ _⟩
    | int i =>
      obtain ⟨c, rfl⟩ := x
      refine ⟨[], (by intro b hb; cases hb), .of_is (ReprIs.int c ?_) _ _ _⟩
      have h1 := y.1; have h2 := y.2
      have : i.natAbs < 50 := by omega
      exact Nat.lt_of_le_of_lt (Nat.log2_le_self _) (by omega)
    | byt o => obtain ⟨c, rfl⟩ := x; exact ⟨[], (by intro b hb; cases hb), .of_is (reprIs_byt y) _ _ _⟩
    | lst l => exact y.elim
    | tup l =>
      obtain ⟨a, vs, rfl, h1, h2⟩ := id x
      obtain ⟨bs, hd, hk⟩ := repr_list (fun m t v => ih m (t := t) (v := v)) h2 y
      have hna := repr_na S x hd
      refine ⟨a :: bs, fun b hb => ?_, ReprK.tuple (S.fz _ _ h1) rfl rfl hna (by simpa using hk)⟩
      rcases List.mem_cons.mp hb with rfl | hb
      · exact ⟨_, _, x, Nat.le_refl _⟩
      · obtain ⟨m', t', q1, q2⟩ := hd b hb; exact ⟨m', t', q1, by rw [tdep]; omega⟩
theorem repr_tup {l : List T} {a : Addr} {m : Nat} (R : Rm A 5) (S : St h₀ I C h) (hn : n ≤ 300) (x : IsTv I (n + 1) (.tup l) (.ref a)) (y : TW (m + 1) (.tup l)) (hz : (shownT (.tup l)).length ≤ sizeLine)
    (q : ∀ u h' tk', St h₀ I C h' → Q (.str (shownT (.tup l)) u) (sh b h' tk')) : wpAny (model P0 w) A (call (.builtin "repr") [.ref a]) Q E (sh b h tk) := by
  obtain ⟨a', vs, e, h1, h2⟩ := id x
  cases e
  have hu := R.un'
  obtain ⟨bs, hd, hk⟩ := repr_list (w := w) (fun m t v => repr_k S n m (t := t) (v := v)) h2 y
  refine call_repr_slot (by omega) (⟨_, S.fz _ _ h1, rfl⟩ : Shared.TypeIs (sh b h tk) (.ref a) "tuple") F.slot_tuple_repr ?_
  refine call_tuple_reprK (h₀ := h) (d := n) (S.fz _ _ h1) rfl rfl (repr_na S x hd) (by simpa using hk) R.gd (fun b _ => Clear.nil b) (by show A.units + 1 + (n + 1) < cLine; omega) (fun _ _ e => e) (fun h' u tk' hk' => ⟨_, _, rfl, q u h' tk' (S.ext hk')⟩) hz
end
end
section -- Y2
open PySem PySem.W PyProof.Rows PySem.Calls PySem.Spec PySem.SeqAt
set_option maxRecDepth 100000
set_option linter.unusedVariables false
theorem All2.mem {α β : Type} {R : α → β → Prop} {a : α} : ∀ {l : List α} {m : List β}, All2 R l m → a ∈ l → ∃ b, R a b
  | _ :: _, _ :: _, .cons x y, h => by
    rcases List.mem_cons.mp h with rfl | h
    · exact ⟨_, x⟩
    · exact y.mem h
theorem toldR_mem {k : Str} {t : T} : ∀ {l : List (Str × D)}, (k, t) ∈ toldR l → ∃ d, (k, d) ∈ l ∧ t = told d
  | (j, d) :: r, h => by
    rw [toldR] at h
    split at h
    · obtain ⟨d', a, b⟩ := toldR_mem h; exact ⟨d', .tail _ a, b⟩
    · rcases List.mem_cons.mp h with h | h
      · cases h; exact ⟨d, .head _, rfl⟩
      · obtain ⟨d', a, b⟩ := toldR_mem h; exact ⟨d', .tail _ a, b⟩
theorem rowsT_mem {t : T} {l : List (Str × T)} (h : t ∈ rowsT l) : ∃ k u, k ∈ okSorted ∧ (k, u) ∈ l ∧ t = .tup [.str k, u] := by
  unfold rowsT at h
  obtain ⟨k, hk, e⟩ := List.mem_filterMap.mp h
  obtain ⟨u, hu, rfl⟩ := Option.map_eq_some_iff.mp e
  exact ⟨k, u, hk, look_in hu, rfl⟩
theorem toldL_mem {t : T} : ∀ {l : List D}, t ∈ toldL l → ∃ d ∈ l, t = told d
  | d :: r, h => by
    rw [toldL] at h
    rcases List.mem_cons.mp h with rfl | h
    · exact ⟨d, .head _, rfl⟩
    · obtain ⟨d', a, b⟩ := toldL_mem h; exact ⟨d', .tail _ a, b⟩
theorem tags_w : sx "null" ∈ words ∧ sx "int" ∈ words ∧ sx "name" ∈ words ∧ sx "ref" ∈ words ∧ sx "array" ∈ words ∧ sx "dict" ∈ words ∧ sx "stream" ∈ words := by decide +kernel
theorem names_w : ∀ s ∈ okNames, s ∈ words := by decide +kernel
theorem keys_w : ∀ s ∈ okSorted, s ∈ words := by decide +kernel
theorem told_tup (d : D) : ∃ l, told d = .tup l := by cases d <;> exact ⟨_, by rw [told]⟩
theorem tw_up : ∀ {n : Nat} {t : T}, TW n t → TW (n + 1) t
  | n + 1, .str s, h => h
  | n + 1, .int s, h => h
  | n + 1, .byt s, h => h
  | n + 1, .tup l, h => fun t ht => tw_up (h t ht)
  | n + 1, .lst l, h => h.elim
section
variable {w : World} {I : Fz}
theorem tw_word (n : Nat) {d : D} {v : Value} {s : Str} (x : IsD w I n d v) (h : s ∈ words) : TW (2 * n) (.str s) := by
  cases n with
  | zero => exact x.elim
  | succ n => exact h
theorem told_tw : ∀ (n : Nat) {d : D} {v : Value}, IsD w I n d v → TW (2 * n) (told d) := by
  intro n
  induction n with
  | zero => intro d v x; exact x.elim
  | succ n ih =>
    intro d v x
    obtain ⟨w1, w2, w3, w4, w5, w6, w7⟩ := tags_w
    cases d with
    | null => rw [told]; intro t ht; simp at ht; subst ht; exact w1
    | int i =>
      obtain ⟨_, _, hi⟩ := x
      rw [told]; intro t ht; simp at ht
      rcases ht with rfl | rfl
      · exact w2
      · exact hi
    | name s =>
      obtain ⟨_, _, _, _, hi⟩ := x
      rw [told]; intro t ht; simp at ht
      rcases ht with rfl | rfl
      · exact w3
      · exact names_w _ hi
    | ref i g =>
      obtain ⟨_, _, _, _, _, hi, hg⟩ := x
      rw [told]; intro t ht; simp at ht
      rcases ht with rfl | rfl | rfl
      · exact w4
      · exact hi
      · exact hg
    | arr l =>
      obtain ⟨_, vs, _, _, _, _, hal, _⟩ := x
      rw [told]; intro t ht
      rcases List.mem_cons.mp ht with rfl | ht
      · exact w5
      · obtain ⟨d, hd, rfl⟩ := toldL_mem ht
        obtain ⟨u, hu⟩ := hal.mem hd
        have := ih hu
        exact tw_up this
    | dict l =>
      obtain ⟨_, kvs, _, _, hal, _, hok⟩ := x
      rw [told]; intro t ht
      rcases List.mem_cons.mp ht with rfl | ht
      · exact w6
      · obtain ⟨k, u, hk, hu, rfl⟩ := rowsT_mem ht
        obtain ⟨d, hd, rfl⟩ := toldR_mem hu
        obtain ⟨q, _, hq⟩ := hal.mem hd
        intro t ht; simp at ht
        rcases ht with rfl | rfl
        · exact tw_word n hq (keys_w _ hk)
        · exact ih hq
    | stream d o =>
      obtain ⟨_, hv, _, _, _, hd, _, ho⟩ := x
      rw [told]; intro t ht; simp at ht
      rcases ht with rfl | rfl | rfl
      · exact w7
      · exact tw_up (ih hd)
      · exact ho
noncomputable def lenB : Nat → Nat | 0 => 0 | n + 1 => 10 * lenB n + 150
theorem piled_cons (a : Str) (r : List Str) : piled (a :: r) = a.length + 2 + piled r := by simp [piled]
theorem piled_nil : piled [] = 0 := rfl
theorem piled_le {B : Nat} : ∀ (ts : List T), (∀ t ∈ ts, (shownT t).length ≤ B) → piled (shownTs ts) ≤ ts.length * (B + 2)
  | [], _ => by simp [shownTs, piled]
  | t :: r, h => by
    have ih := piled_le r fun u hu => h u (.tail _ hu)
    have h0 := h t (.head _)
    rw [shownTs, piled_cons, List.length_cons, Nat.succ_mul]
    omega
theorem byt_len {o : Array UInt8} : (shownT (.byt o)).length ≤ 8 := by
  rw [shownT]; split <;> decide +kernel
theorem str_len {s : Str} (h : s ∈ words) : (shownT (.str s)).length ≤ 8 := by rw [shownT]; exact word_len s h
theorem num_len {i : Int} (h : smallI i) : (shownT (.int i)).length ≤ 8 := by rw [shownT]; have := small_len h; omega
theorem tupS (l : List T) : (shownT (.tup l)).length ≤ piled (shownTs l) + 3 := by rw [shownT]; exact tup_len
theorem told_len : ∀ (n : Nat) {d : D} {v : Value}, IsD w I n d v → (shownT (told d)).length ≤ lenB n := by
  intro n
  induction n with
  | zero => intro d v x; exact x.elim
  | succ n ih =>
    intro d v x
    obtain ⟨w1, w2, w3, w4, w5, w6, w7⟩ := tags_w
    cases d with
    | null =>
      rw [told, lenB]
      have := tupS [.str (sx "null")]
      have h1 := str_len w1
      simp only [shownTs, piled_cons, piled_nil] at this
      omega
    | int i =>
      obtain ⟨_, _, hi⟩ := x
      rw [told, lenB]
      have := tupS [.str (sx "int"), .int i]
      have h1 := str_len w2
      have h2 := num_len hi
      simp only [shownTs, piled_cons, piled_nil] at this
      omega
    | name s =>
      obtain ⟨_, _, _, _, hi⟩ := x
      rw [told, lenB]
      have := tupS [.str (sx "name"), .str s]
      have h1 := str_len w3
      have h2 := str_len (names_w _ hi)
      simp only [shownTs, piled_cons, piled_nil] at this
      omega
    | ref i g =>
      obtain ⟨_, _, _, _, _, hi, hg⟩ := x
      rw [told, lenB]
      have := tupS [.str (sx "ref"), .int i, .int g]
      have h1 := str_len w4
      have h2 := num_len hi
      have h3 := num_len hg
      simp only [shownTs, piled_cons, piled_nil] at this
      omega
    | arr l =>
      obtain ⟨_, vs, _, _, _, _, hal, hl⟩ := x
      rw [told, lenB]
      have h0 := tupS (.str (sx "array") :: toldL l)
      have h1 := str_len w5
      have h2 := piled_le (B := lenB n) (toldL l) fun t ht => by
        obtain ⟨d, hd, rfl⟩ := toldL_mem ht
        obtain ⟨u, hu⟩ := hal.mem hd
        exact ih hu
      rw [toldL_len] at h2
      have h3 : l.length * (lenB n + 2) ≤ 10 * (lenB n + 2) := Nat.mul_le_mul_right _ hl
      simp only [shownTs, piled_cons] at h0
      omega
    | dict l =>
      obtain ⟨_, kvs, _, _, hal, _, hok⟩ := x
      rw [told, lenB]
      have h0 := tupS (.str (sx "dict") :: rowsT (toldR l))
      have h1 := str_len w6
      have h2 := piled_le (B := lenB n + 15) (rowsT (toldR l)) fun t ht => by
        obtain ⟨k, u, hk, hu, rfl⟩ := rowsT_mem ht
        obtain ⟨d, hd, rfl⟩ := toldR_mem hu
        obtain ⟨q, _, hq⟩ := hal.mem hd
        have a0 := tupS [.str k, told d]
        have a1 := str_len (keys_w _ hk)
        have a2 : (shownT (told d)).length ≤ lenB n := ih hq
        simp only [shownTs, piled_cons, piled_nil] at a0
        omega
      have h3 : (rowsT (toldR l)).length ≤ 8 := List.length_filterMap_le _ _
      have h4 : (rowsT (toldR l)).length * (lenB n + 15 + 2) ≤ 8 * (lenB n + 15 + 2) := Nat.mul_le_mul_right _ h3
      simp only [shownTs, piled_cons] at h0
      omega
    | stream d o =>
      obtain ⟨_, hv, _, _, _, hd, _, ho⟩ := x
      rw [told, lenB]
      have h0 := tupS [.str (sx "stream"), told d, .byt o]
      have h1 := str_len w7
      have h2 := ih hd
      have h3 := byt_len (o := o)
      simp only [shownTs, piled_cons, piled_nil] at h0
      omega
end
section
variable {w : World} {A : Around} {E : Value → Shared → Prop} {b : Bs} {h : Heap} {tk : Nat} {h₀ : Heap} {I : Fz} {C : List Cell} {Q : Value → Shared → Prop} {d : D} {v v' : Value}
theorem rep_spec (R : Rm A 5) (S : St h₀ I C h) (hd : IsD w I 6 d v) (x : IsTv I 12 (told d) v') (q : ∀ u h' tk', St h₀ I C h' → Q (.str (rep d) u) (sh b h' tk')) : wpAny (model P0 w) A (call (.builtin "repr") [v']) Q E (sh b h tk) := by
  obtain ⟨l, hl⟩ := told_tup d
  have t1 := told_tw 6 hd
  have t2 := told_len 6 hd
  unfold rep at q
  rw [hl] at x t1 t2 q
  obtain ⟨a, vs, rfl, h1, h2⟩ := id x
  refine repr_tup (m := 11) R S (by omega) x t1 ?_ q
  have : lenB 6 = 16666650 := rfl
  rw [sizeLine_eq]; omega
end
end
section -- J1
open PySem PySem.W PyProof.Rows PySem.Calls PySem.Spec PySem.SeqAt
set_option maxRecDepth 100000
set_option maxHeartbeats 1000000
set_option linter.unusedVariables false
noncomputable def FsR (I : Fz) (fs : List (Str × Int × Int)) (kvs : List (Str × Value)) : Prop := All2 (fun (p : Str × Int × Int) (q : Str × Value) => p.1 = q.1 ∧ ∃ a, q.2 = .ref a ∧ PairF I a p.2) fs kvs
theorem FsR.le {I J : Fz} {fs : List (Str × Int × Int)} {kvs : List (Str × Value)} (x : FsR I fs kvs) (k : Le I J) : FsR J fs kvs := x.imp fun _ _ ⟨a, b, c, d⟩ => ⟨a, b, c, d.le k⟩
theorem FsR.at {I : Fz} {k : Str} : ∀ {fs : List (Str × Int × Int)} {kvs : List (Str × Value)}, FsR I fs kvs → (fs.lookup k = none ∧ valueAt kvs k = none) ∨ ∃ p a, fs.lookup k = some p ∧ valueAt kvs k = some (.ref a) ∧ PairF I a p
  | _, _, .nil => .inl ⟨rfl, rfl⟩
  | (j, p) :: fs, (j', v) :: kvs, .cons h t => by
    obtain ⟨h1, a, h3, h4⟩ := h
    obtain rfl : j = j' := h1
    obtain rfl : v = .ref a := h3
    by_cases e : k = j
    · subst e
      exact .inr ⟨p, a, by rw [List.lookup_cons, beq_self_eq_true], by simp [valueAt], h4⟩
    · have e1 : (k == j) = false := beq_eq_false_iff_ne.mpr e
      have e2 : ¬ j = k := fun q => e q.symm
      unfold valueAt
      rw [List.lookup_cons, e1, List.find?_cons, show decide ((j, Value.ref a).1 = k) = false by simpa using e2]
      exact FsR.at t
section
variable {w : World} {A : Around} {E : Value → Shared → Prop} {b : Bs} {h : Heap} {tk : Nat} {h₀ : Heap} {I : Fz} {C : List Cell} {Q : Value → Shared → Prop} {n : Nat} {d tr : D} {v : Value} {x : Addr} {tb : Tab}
theorem St.blk1 {c : Cell} (l1 l2 : List Cell) {l3 : List Cell} (S : St h₀ I (c :: (l1 ++ (l2 ++ l3))) h) : St h₀ I (c :: (l2 ++ (l1 ++ l3))) h := S.perm (.cons _ (List.perm_append_comm_assoc l1 l2 l3))
theorem subH {K : Type} [DecidableEq K] {knd : PySem.KeyKind P0 w K} {x : Addr} {kvs : List (K × Value)} {k : K} {key v : Value} {value slice : Expr} (dh : DicH knd h x kvs) (hk : knd.is k key = true) (hv : valueAt kvs k = some v) (q : ∀ tk', Q v (sh b h tk'))
    (hs : subscripted slice false (.ref x) key = operate [.ref x, key] (getItem (.ref x) key) := by with_unfolding_all rfl) :
    wpAny (model P0 w) A (subscriptTail value slice (.ref x) key) Q E (sh b h tk) :=
  tail_any (T := "dict") (dh.2.typeIs (s := sh b h tk)) slot_dict_getitem.lookup (dGet dh hk hv q) hs
theorem single_in {s : Str} {t : Tok} (W : Wd (KK w.params) h₀) (S : St h₀ I C h) (q : Q (.bool (decide (s ∈ [sx "Page", sx "Pages", sx "Catalog"]))) (sh b h tk)) : wpAny (model P0 w) A (compareOp .In (.str s t) (.ref 359)) Q E (sh b h tk) := by
  have e : (KK w.params).lookup 359 = some (o359 w.params) := by kernel_rfl
  have ho := S.Kin W _ _ e
  refine in_tuple_strs (s := sh b h tk) (ys := [sx "Page", sx "Pages", sx "Catalog"]) ⟨_, ho, rfl, _, rfl⟩ (.cons _ _ (.cons _ _ (.cons _ _ .nil))) ?_
  have e2 : ([sx "Page", sx "Pages", sx "Catalog"].any (· == s)) = decide (s ∈ [sx "Page", sx "Pages", sx "Catalog"]) := by
    rw [Bool.eq_iff_iff, List.any_eq_true, decide_eq_true_eq]
    exact ⟨fun ⟨y, a, c⟩ => beq_iff_eq.mp c ▸ a, fun a => ⟨s, a, beq_self_eq_true s⟩⟩
  rw [e2]; exact q
theorem twins_spec (W : Wd (KK w.params) h₀) (R : Rm A 20) (S : St h₀ I C h) (hs : ShelfF w I x tb tr) (q : ∀ a xs I' h' tk', Le I I' → NmR w I' (twG [] tb) xs → St h₀ I' ((a, PtO w a xs) :: C) h' → Q (.ref a) (sh b h' tk')) :
    wpAny (model P0 w) A (call (.ref 373) [.ref x]) Q E (sh b h tk) := by
  refine callP W R S (f_twins w.params) (binds := [(Str.ofString "shelf", .ref x)]) (fun pm => BindsTo.of_eq (by kernel_rfl)) (by kernel_rfl) (by kernel_rfl) rfl rfl rfl fun A' L h₁ tk1 R' S1 => ?_
  obtain ⟨l, t, kvs, vt, hi, at1, at2, ht, htr, hm⟩ := hs.ex
  refine wpAny_execs_cons ?_
  walk_at "g"
  refine dNew (sK w) W S1 fun d1 h2 S2 => ?_
  replace S2 := S2.swap
  clear S1
  walk_at "s"; intro h3 tk3 S3; clear S2
  walk_at "g"
  refine ptNew W S3 fun d2 h4 S4 => ?_
  replace S4 := S4.rot3
  clear S3
  walk_at "s"; intro h5 tk5 S5; clear S4
  walk_at "g"
  refine wpAny_For ?_
  walk_at "g"
  refine getNumbers W (R'.less (by omega)) S5 hs fun a vs I2 h6 tk6 k2 hl hv S6 => ?_
  clear S5
  obtain ⟨ol, hol, hlo⟩ := hl
  refine itList S6 hol hlo fun it h7 tk7 N HI S7 => ?_
  clear S6
  have hvl : vs.toArray.size = tb.length := by rw [List.size_toArray, hv.length, List.length_map]
  refine forF HI R'.hd (fun i I' l' C' => ∃ fs fkvs nm xs, FsR I' fs fkvs ∧ NmR w I' nm xs ∧ nm ++ twG fs (tb.drop i) = twG [] tb ∧ (∀ p ∈ nm, p.1.1 ∈ (tb.take i).map (·.1)) ∧ fs.length ≤ i ∧ nm.length ≤ i ∧
    l' = [(Str.ofString "table", .ref d2), (Str.ofString "firsts", .ref d1), (Str.ofString "shelf", .ref x)] ∧ C' = (d1, DicC (sK w) d1 fkvs) :: (d2, PtO w d2 xs) :: C) S7.swap Le.rfl ⟨[], [], [], [], .nil, .nil, rfl, by simp, by simp, by simp, rfl, rfl⟩ ?_ ?_
  · rintro i I' l' C' h tk v hi' ⟨fs, fkvs, nm, xs, hfs, hnm, htw, hkey, hfl, hnl, rfl, rfl⟩ k3 hv' S8 Nx hNx
    obtain ⟨m, tm, rfl, hm2⟩ := ints_of hv (show vs[i]? = some v by simpa using hv')
    obtain ⟨⟨k, g, d⟩, hp, hpk⟩ : ∃ p, tb[i]? = some p ∧ p.1 = m := by
      rw [List.getElem?_map] at hm2
      cases e : tb[i]? with
      | none => rw [e] at hm2; cases hm2
      | some p => rw [e] at hm2; exact ⟨p, rfl, by simpa using hm2⟩
    obtain rfl : k = m := hpk
    obtain ⟨t', u, v', e1, e2, e3⟩ := tab_look ht.al (look_at hs.ok.pw hp)
    have kk := k2.trans k3
    have hdrop : tb.drop i = (k, g, d) :: tb.drop (i + 1) := by
      rw [List.drop_eq_getElem_cons (by rw [← hvl]; exact hi')]
      congr 1
      rw [List.getElem?_eq_getElem (by rw [← hvl]; exact hi')] at hp
      exact Option.some.inj hp
    refine wpAny_assign_Name ?_
    walk_at "s"; intro h8 tk8 S9; clear S8
    refine wpAny_execs_cons ?_
    walk_at "g"
    refine getTb W S9 (hi.le kk) at1 (by rfl) fun tk9 => ?_
    walk_at "g"
    refine subD (ht.dic.le kk) S9 intKey_is e1 fun tk10 => ?_
    refine asgn2 R'.hd S9 (e2.le kk) (fun h9 tk11 S10 => ?_) rfl rfl rfl
    clear S9
    walk_at "g"
    walk_at "k"
    refine word_spec W (R'.less (by omega)) S10 (e3.le kk) fun tw h10 tk12 S11 => ?_
    clear S10
    walk_at "g"
    refine single_in W S11 ?_
    walk_at "g"
    refine ifB (fun hsg => ?_) (fun hsg => ?_)
    · walk_at "g"
      refine hNx ⟨I', _, _, h10, _, rfl, Le.rfl, ⟨fs, fkvs, nm, xs, hfs, hnm, ?_, fun p hp' => ?_, by omega, by omega, rfl, rfl⟩, S11.mono fun o ho => ho.sub ⟨rfl, rfl, rfl, trivial⟩⟩
      · rw [← htw, hdrop, twG, show single d = true from hsg, if_pos rfl]
      · rw [take_snoc hp, List.map_append]; exact List.mem_append_left _ (hkey p hp')
    · walk_at "g"
      walk_at "k"
      refine told_spec 6 W (R'.less (by omega)) S11 (e3.le kk) fun v2 I3 h11 tk13 k4 hv2 S12 => ?_
      clear S11
      walk_at "g"
      refine rep_spec (R'.less (by omega)) S12 ((e3.le kk).le k4) hv2 fun tr' h12 tk14 S13 => ?_
      clear S12
      walk_at "s"; intro h13 tk15 S14; clear S13
      walk_at "g"
      have dh := DicH.ofC S14.tail.tail.head
      refine dIn (k := rep d) dh (strKind_is P0 w _ _) fun tk16 => ?_
      walk_at "g"
      rcases (hfs.le k4).at (k := rep d) with ⟨f1, f2⟩ | ⟨pr, ka, f1, f2, f3⟩
      · rw [show (valueAt fkvs (rep d)).isSome = false by rw [f2]; rfl]
        walk_at "g"
        refine tupN S14 (by simp) fun xt I4 h14 k5 ixt S15 => ?_
        clear S14 dh
        walk_at "g"
        refine dSet (k := rep d) (DicH.ofC S15.tail.tail.head) (strKind_is P0 w _ _) (by rw [← hfs.len]; have := hs.ok.ln; omega) fun h15 tk17 he hx => ?_
        have S16 := S15.same3 he hx
        clear S15
        walk_at "g"
        have hk0 : ∀ p ∈ fkvs, p.1 ≠ rep d := fun p hp e => by
          unfold valueAt at f2
          rw [Option.map_eq_none_iff, List.find?_eq_none] at f2
          exact f2 p hp (by simpa using e)
        rw [stored_new hk0] at S16
        refine hNx ⟨I4, _, _, h15, _, rfl, k4.trans k5, ⟨fs ++ [(rep d, k, g)], _, nm, xs, ((hfs.le k4).le k5).snoc ⟨rfl, xt, rfl, _, _, ixt⟩, (hnm.le k4).le k5, ?_, fun p hp' => ?_, by simp; omega, by omega, rfl, rfl⟩, S16.mono fun o ho => ho.sub ⟨rfl, rfl, rfl, trivial⟩⟩
        · rw [← htw, hdrop, twG, show single d = false from hsg, if_neg Bool.false_ne_true, f1]
        · rw [take_snoc hp, List.map_append]; exact List.mem_append_left _ (hkey p hp')
      · rw [show (valueAt fkvs (rep d)).isSome = true by rw [f2]; rfl]
        walk_at "g"
        refine subH dh (strKind_is P0 w _ _) f2 fun tk17 => ?_
        walk_at "g"
        refine tupN S14 (by simp) fun xt I4 h14 k5 ixt S15 => ?_
        clear S14 dh
        have S16 := St.blk1 [_, _] [_] S15
        clear S15
        have hnew : nm.lookup (k, g) = none := by
          cases q : nm.lookup (k, g) with
          | none => rfl
          | some z =>
            exfalso
            have hin := hkey _ (look_in q)
            have hpw := hs.ok.pw
            rw [← List.take_append_drop i tb, List.map_append, List.pairwise_append] at hpw
            have := hpw.2.2 k hin k (by rw [hdrop]; simp)
            omega
        refine ptSet (p := (k, g)) (u := pr) (nm := nm) (R'.less (by omega) : Rm A' 5) S16 ((hnm.le k4).le k5) ⟨_, _, ixt⟩ (f3.le k5) (by have := hs.ok.ln; omega) hnew fun h15 tk18 xs' S17 hnm' => ?_
        have S18 := St.blk1 [_] [_, _] S17
        clear S16 S17
        walk_at "g"
        refine hNx ⟨I4, _, _, h15, _, rfl, k4.trans k5, ⟨fs, fkvs, nm ++ [((k, g), pr)], xs', (hfs.le k4).le k5, hnm', ?_, fun p hp' => ?_, by omega, by simp; omega, rfl, rfl⟩, S18.mono fun o ho => ho.sub ⟨rfl, rfl, rfl, trivial⟩⟩
        · rw [← htw, hdrop, twG, show single d = false from hsg, if_neg Bool.false_ne_true, f1, List.append_assoc]; rfl
        · rw [take_snoc hp, List.map_append]
          rcases List.mem_append.mp hp' with hp' | hp'
          · exact List.mem_append_left _ (hkey p hp')
          · rw [List.mem_singleton.mp hp']; exact List.mem_append_right _ (by simp)
  · rintro I' l' C' h tk ⟨fs, fkvs, nm, xs, hfs, hnm, htw, hkey, hfl, hnl, rfl, rfl⟩ k3 S8
    walk_at "g"
    rw [hvl, List.drop_length, twG, List.append_nil] at htw
    exact q d2 xs I' h _ (k2.trans k3) (htw ▸ hnm) S8.tail.tail
end
end
section -- J2
open PySem PySem.W PyProof.Rows PySem.Calls PySem.Spec PySem.SeqAt
set_option maxRecDepth 100000
set_option maxHeartbeats 1000000
set_option linter.unusedVariables false
theorem twG_vals {fs : List (Str × Int × Int)} {P : Int × Int → Prop} : ∀ {tb : Tab} {fs : List (Str × Int × Int)}, (∀ p ∈ fs, P p.2) → (∀ r ∈ tb, P (r.1, r.2.1)) → ∀ q ∈ twG fs tb, P q.2
  | [], fs, _, _, q, h => by cases h
  | (i, g, d) :: r, fs, h1, h2, q, h => by
    have h2' : ∀ r' ∈ r, P (r'.1, r'.2.1) := fun r' hr => h2 r' (.tail _ hr)
    rw [twG] at h
    split at h
    · exact twG_vals (fs := fs) h1 h2' q h
    · split at h
      · rename_i p hp
        rcases List.mem_cons.mp h with rfl | h
        · exact h1 _ (look_in hp)
        · exact twG_vals (fs := fs) h1 h2' q h
      · exact twG_vals (fs := fs) (fun p hp => by
          rcases List.mem_append.mp hp with hp | hp
          · exact h1 p hp
          · rw [List.mem_singleton.mp hp]; exact h2 (i, g, d) (.head _)) h2' q h
theorem names_ok {tb : Tab} (h : TabOk tb) : nmOk (namesOf tb (twG [] tb)) := fun p hp => by
  obtain ⟨r, hr, rfl⟩ := List.mem_map.mp hp
  have hsm : ∀ r ∈ tb, smallI (r.1, r.2.1).1 ∧ smallI (r.1, r.2.1).2 := fun r hr => h.sm r hr
  dsimp only
  cases e : (twG [] tb).lookup (r.1, r.2.1) with
  | none => exact hsm r hr
  | some u => exact twG_vals (fs := []) (P := fun q => smallI q.1 ∧ smallI q.2) (by simp) hsm _ (look_in e)
theorem left_ok {tb : Tab} {t : Names} (h : TabOk tb) : TabOk (leftOf tb t) := by
  have e : (leftOf tb t).map (·.1) = (tb.filter fun p => (t.lookup (p.1, p.2.1)).isNone).map (·.1) := by unfold leftOf; rw [List.map_map]; rfl
  refine ⟨?_, ?_, fun p hp => ?_⟩
  · rw [e]; exact h.pw.sublist (List.filter_sublist.map _)
  · unfold leftOf; rw [List.length_map]; exact Nat.le_trans (List.length_filter_le _ _) h.ln
  · obtain ⟨r, hr, rfl⟩ := List.mem_map.mp hp
    exact h.sm r (List.mem_filter.mp hr).1
section
variable {w : World} {A : Around} {E : Value → Shared → Prop} {b : Bs} {h : Heap} {tk : Nat} {h₀ : Heap} {I : Fz} {C : List Cell} {Q : Value → Shared → Prop} {n : Nat} {d tr : D} {v : Value} {x : Addr} {tb : Tab}
theorem dCopy {K : Type} [DecidableEq K] {knd : PySem.KeyKind P0 w K} {x : Addr} {kvs : List (K × Value)} (W : Wd (KK w.params) h₀) (S : St h₀ I C h) (hd : DicF knd I x kvs) (hz : kvs.length ≤ 1000) (q : ∀ d I' h', Le I I' → DicF knd I' d kvs → St h₀ I' C h' → Q (.ref d) (sh b h' tk)) :
    wpAny (model P0 w) A (call (.type "dict") [.ref x]) Q E (sh b h tk) := by
  have dh := hd.dh S
  refine kt_call_dict (s := sh b h tk) dh.ns dh.2 (by rw [sizeLine_eq]; omega) fun h' hm hs => ?_
  have S1 : St h₀ I ((h.objs.size, DicC knd h.objs.size kvs) :: C) h' := by
    obtain ⟨o, e, y⟩ := Heap.dictOf_iff.mp hm
    exact S.fresh (size_none _) (fun c o e => hs.extBut c o (fun z => by have z' : c = h.objs.size := z; rw [z', size_none] at e; cases e) (Heap.get?_push_of_some _ e)) ⟨o, e, big W S, y⟩
  obtain ⟨o, ho, S2⟩ := S1.freeze
  exact q _ _ _ Add.le ⟨o, Add.new, ho⟩ S2
theorem dLen {K : Type} [DecidableEq K] {knd : PySem.KeyKind P0 w K} {x : Addr} {kvs : List (K × Value)} (S : St h₀ I C h) (hd : DicF knd I x kvs) (hz : kvs.length ≤ 1000) (q : ∀ t tk', Q (.int kvs.length t) (sh b h tk')) :
    wpAny (model P0 w) A (call (.builtin "len") [.ref x]) Q E (sh b h tk) :=
  call_len_dict (s := sh b h tk) (hd.dh S).ns (hd.dh S).2 (by omega) (q _ _)
theorem getMN {x : Addr} {nm : Names} {pl : Sem Bool} {Q : Value × List Value → Shared → Prop} (hd : NmF w I x nm) (S : St h₀ I C h) (q : Q (.builtin "dict.get", [.ref x]) (sh b h tk)) :
    wpAny (model P0 w) A (getMethod (.ref x) "get" pl) Q E (sh b h tk) := by
  obtain ⟨o, xs, ho, ⟨_, es, ep, hc, _⟩, _⟩ := hd
  exact getMethod_builtin (T := "dict") ⟨o, S.fz _ _ ho, hc.1⟩ PySem.F.plainAttrs_dict PySem.F.slot_dict_get PySem.F.type_dict_get (fun a e => by injection e with e; subst e; exact ⟨o, S.fz _ _ ho, hc.2.1⟩) q
theorem take_new {tb : Tab} {f : Int × Int × D → Int × Int} {j : Nat} {k g : Int} {d : D} (hpw : (tb.map (·.1)).Pairwise (· < ·)) (hp : tb[j]? = some (k, g, d)) : ((tb.map fun p => ((p.1, p.2.1), f p)).take j).lookup (k, g) = none := by
  cases q : ((tb.map fun p => ((p.1, p.2.1), f p)).take j).lookup (k, g) with
  | none => rfl
  | some z =>
    exfalso
    have hin := look_in q
    rw [← List.map_take] at hin
    obtain ⟨r, hr, e⟩ := List.mem_map.mp hin
    have hj : j < tb.length := by
      rcases Nat.lt_or_ge j tb.length with h | h
      · exact h
      · rw [List.getElem?_eq_none h] at hp; cases hp
    have hd : tb.drop j = (k, g, d) :: tb.drop (j + 1) := by
      rw [List.drop_eq_getElem_cons hj]
      congr 1
      rw [List.getElem?_eq_getElem hj] at hp
      exact Option.some.inj hp
    rw [← List.take_append_drop j tb, List.map_append, List.pairwise_append] at hpw
    have := hpw.2.2 r.1 (List.mem_map.mpr ⟨r, hr, rfl⟩) k (by rw [hd]; simp)
    have e1 : r.1 = k := by cases e; rfl
    omega
noncomputable def leftP (t nm : Names) (l : Tab) : Tab := (l.filter fun p => (t.lookup (p.1, p.2.1)).isNone).map fun p => (p.1, p.2.1, ren nm p.2.2)
theorem leftP_key {t nm : Names} {l : Tab} {q : Int × Int × D} (h : q ∈ leftP t nm l) : q.1 ∈ l.map (·.1) := by
  obtain ⟨r, hr, rfl⟩ := List.mem_map.mp h
  exact List.mem_map.mpr ⟨r, (List.mem_filter.mp hr).1, rfl⟩
theorem take_ne {tb : Tab} {j : Nat} {k g : Int} {d : D} (hpw : (tb.map (·.1)).Pairwise (· < ·)) (hp : tb[j]? = some (k, g, d)) {z : Int} (h : z ∈ (tb.take j).map (·.1)) : z ≠ k := by
  have hj : j < tb.length := by
    rcases Nat.lt_or_ge j tb.length with h | h
    · exact h
    · rw [List.getElem?_eq_none h] at hp; cases hp
  have hd : tb.drop j = (k, g, d) :: tb.drop (j + 1) := by
    rw [List.drop_eq_getElem_cons hj]
    congr 1
    rw [List.getElem?_eq_getElem hj] at hp
    exact Option.some.inj hp
  rw [← List.take_append_drop j tb, List.map_append, List.pairwise_append] at hpw
  have := hpw.2.2 z h k (by rw [hd]; simp)
  omega
theorem joined_spec (W : Wd (KK w.params) h₀) (R : Rm A 40) (S : St h₀ I C h) (hs : ShelfF w I x tb tr) (q : ∀ y I' h' tk', Le I I' → ShelfF w I' y (laps (tb.length + 1) tb tr).1 (laps (tb.length + 1) tb tr).2 → St h₀ I' C h' → Q (.ref y) (sh b h' tk')) :
    wpAny (model P0 w) A (call (.ref 380) [.ref x]) Q E (sh b h tk) := by
  refine callP W R S (f_joined_twins w.params) (binds := [(Str.ofString "shelf", .ref x)]) (fun pm => BindsTo.of_eq (by kernel_rfl)) (by kernel_rfl) (by kernel_rfl) rfl rfl rfl fun A' L h₁ tk1 R' S1 => ?_
  obtain ⟨l, t, kvs, vt, hi, at1, at2, ht, htr, hm⟩ := hs.ex
  obtain ⟨ltr, rfl⟩ := hs.tr
  obtain ⟨xt, tkvs, rfl, htd, htal, htlen, htok⟩ := id htr
  have hkl : kvs.length ≤ 6 := by rw [← ht.al.len]; exact hs.ok.ln
  refine wpAny_execs_cons ?_
  walk_at "g"
  refine getTb W S1 hi at1 (by rfl) fun tk2 => ?_
  walk_at "g"
  refine dCopy W S1 ht.dic (by omega) fun t2 I2 h2 k2 ht2 S2 => ?_
  clear S1
  walk_at "g"
  refine getTr W S2 (hi.le k2) at2 (by rfl) fun tk3 => ?_
  walk_at "g"
  refine dCopy W S2 (htd.le k2) (by rw [← htal.len]; omega) fun xt2 I3 h3 k3 htd2 S3 => ?_
  clear S2
  walk_at "g"
  walk_at "k"
  refine newShelf2 W (R'.less (by omega)) S3 (by simp) (by simp) fun y I4 h4 tk4 k4 iy S4 => ?_
  clear S3
  have hs4 : ShelfF w I4 y tb (.dict ltr) := ⟨⟨_, t2, kvs, .ref xt2, iy, rfl, rfl, ⟨(ht2.le k3).le k4, ht.al.imp fun _ _ z => z.le (k2.trans (k3.trans k4))⟩, ⟨xt2, tkvs, rfl, htd2.le k4, htal.imp fun _ _ z => ⟨z.1, z.2.le (k2.trans (k3.trans k4))⟩, htlen, htok⟩, fun n h1 h2 => by
    rw [List.lookup_cons, show (n == sTr) = false by simpa using h2, List.lookup_cons, show (n == sTb) = false by simpa using h1]; rfl⟩, hs.ok, ⟨ltr, rfl⟩⟩
  walk_at "s"; intro h5 tk5 S5; clear S4
  have kk : Le I I4 := k2.trans (k3.trans k4)
  walk_at "g"
  refine wpAny_For ?_
  walk_at "g"
  refine getTb W S5 (hi.le kk) at1 (by rfl) fun tk6 => ?_
  walk_at "g"
  refine dLen S5 (ht.dic.le kk) (by omega) fun tl tk7 => ?_
  walk_at "g"
  refine rng1 (n := tb.length + 1) (by rw [ht.al.len]; rfl) S5 fun r I5 h6 tk8 k5 ir S6 => ?_
  clear S5
  refine itRng S6 ir (by decide) (by decide) (by have := hs.ok.ln; omega) fun it h7 tk9 N HI S7 => ?_
  clear S6
  refine forF HI R'.hd (fun i I' l' C' => ∃ y tb' tr', ShelfF w I' y tb' tr' ∧ laps (tb.length + 1 - i) tb' tr' = laps (tb.length + 1) tb (.dict ltr) ∧ l' = [(Str.ofString "made", .ref y), (Str.ofString "shelf", .ref x)] ∧ C' = C) S7.swap Le.rfl ⟨y, tb, _, hs4.le k5, rfl, rfl, rfl⟩ ?_ ?_
  · rintro i I' l' C' h tk v hi' ⟨y, tb', tr', hs', hl', rfl, e⟩ k6 ⟨tv, rfl⟩ S8 Nx hNx
    refine wpAny_assign_Name ?_
    walk_at "s"; intro h8 tk10 S9; clear S8
    refine wpAny_execs_cons ?_
    walk_at "g"
    walk_at "k"
    refine twins_spec W (R'.less (by omega)) S9 hs' fun ta xs I6 h9 tk11 k7 hnm S10 => ?_
    clear S9
    obtain ⟨I7, k8, hnf, S11⟩ := ptFrz S10 hnm
    clear S10
    walk_at "s"; intro h10 tk12 S12; clear S11
    walk_at "g"
    refine ptNew W S12 fun de h11 S13 => ?_
    obtain ⟨xs2, hx2, hr2, lo2⟩ := hnf.dh S13
    obtain ⟨oe, hoe, poe⟩ := S13.head
    refine eqNil (R'.less (by omega) : Rm A' 5) hx2 lo2 (pt_of (nm := []) S13 hoe poe .nil) (beq_eq_false_iff_ne.mpr poe.1) rfl ?_
    have S14 := S13.tail
    clear S13
    walk_at "g"
    have hemp : xs2.isEmpty = (twG [] tb').isEmpty := by have := hr2.len; cases xs2 <;> cases hh : twG [] tb' <;> simp_all
    have hsucc : tb.length + 1 - i = (tb.length + 1 - (i + 1)) + 1 := by omega
    rw [hsucc, laps] at hl'
    rw [hemp]
    have hs7 := hs'.le (k7.trans k8)
    refine ifB (fun he => ?_) (fun he => ?_)
    · rw [if_pos he] at hl'
      walk_at "g"
      refine q y I7 h11 _ ?_ ?_ ?_
      · exact k2.trans (k3.trans (k4.trans (k5.trans (k6.trans (k7.trans k8)))))
      · rw [← hl']; exact hs7
      · exact e ▸ S14.tail.tail
    · rw [if_neg (by rw [he]; simp)] at hl'
      walk_at "g"
      refine ptNew W S14 fun dn h12 S15 => ?_
      have S16 := S15.swap
      clear S14 S15
      walk_at "s"; intro h13 tk13 S17; clear S16
      walk_at "g"
      refine wpAny_For ?_
      walk_at "g"
      obtain ⟨l7, t7, kvs7, vt7, hi7, bt1, bt2, ht7, htr7, hm7⟩ := hs7.ex
      refine getTb W S17 hi7 bt1 (by rfl) fun tk14 => ?_
      refine itDict S17 ht7.dic fun it2 h14 tk15 N2 HI2 S18 => ?_
      clear S17
      have nn := namesOf tb' (twG [] tb')
      have hlen7 : kvs7.length = tb'.length := ht7.al.len.symm
      have htl := hs7.ok.ln
      refine forF HI2 R'.hd (fun j I8 l' C'' => ∃ xs, NmR w I8 ((namesOf tb' (twG [] tb')).take j) xs ∧
        l' = [(Str.ofString "names", .ref dn), (Str.ofString "table", .ref ta), (Str.ofString "lap", .int (0 + i) tv), (Str.ofString "made", .ref y), (Str.ofString "shelf", .ref x)] ∧ C'' = (dn, PtO w dn xs) :: (it, N (i + 1)) :: C') S18.swap Le.rfl ⟨[], .nil, rfl, rfl⟩ ?_ ?_
      · rintro j I8 l' C'' h tk v hj ⟨ys, hys, rfl, rfl⟩ k9 ⟨kn, vn, hkv, hkn⟩ S19 Nx hNx
        obtain ⟨tkn, rfl⟩ := intKey_inv hkn
        obtain ⟨⟨pk, g, d⟩, hp, hpe, _⟩ := ht7.al.at hkv
        obtain rfl : pk = kn := hpe
        obtain ⟨t', u, v', e1, e2, e3⟩ := tab_look ht7.al (look_at hs7.ok.pw hp)
        refine wpAny_assign_Name ?_
        walk_at "s"; intro h15 tk16 S20; clear S19
        refine wpAny_execs_cons ?_
        walk_at "g"
        refine getTb W S20 (hi7.le k9) bt1 (by rfl) fun tk17 => ?_
        walk_at "g"
        refine subD (ht7.dic.le k9) S20 intKey_is e1 fun tk18 => ?_
        walk_at "g"
        refine itemT (e2.le k9) S20 (by decide) (by decide) (v := .int g u) rfl ?_
        walk_at "g"
        refine tupN S20 (by simp) fun xp I9 h16 k10 ixp S21 => ?_
        clear S20
        walk_at "s"; intro h17 tk19 S22; clear S21
        walk_at "g"
        have ipx : PairF I9 xp (pk, g) := ⟨_, _, ixp⟩
        refine getMN ((hnf.le k9).le k10) S22 ?_
        walk_at "g"
        refine ptGet2 R' S22 ((hnf.le k9).le k10) ipx fun yp tk20 hyp => ?_
        walk_at "g"
        have S23 := St.blk1 [_] [_] S22
        clear S22
        refine ptSet (p := (pk, g)) (u := ((twG [] tb').lookup (pk, g)).getD (pk, g)) (nm := (namesOf tb' (twG [] tb')).take j) (R'.less (by omega) : Rm A' 5) S23 (hys.le k10) ipx hyp (Nat.le_trans (List.length_take_le' _ _) (by unfold namesOf; rw [List.length_map]; omega)) (take_new hs7.ok.pw hp) fun h18 tk21 xs' S24 hnm' => ?_
        have S25 := St.blk1 [_] [_] S24
        clear S23 S24
        walk_at "g"
        refine hNx ⟨I9, _, _, h18, _, rfl, k10, ⟨xs', ?_, rfl, rfl⟩, S25.mono fun o ho => ho.sub ⟨rfl, rfl, rfl, rfl, rfl, trivial⟩⟩
        have e4 : (namesOf tb' (twG [] tb'))[j]? = some ((pk, g), ((twG [] tb').lookup (pk, g)).getD (pk, g)) := by unfold namesOf; rw [List.getElem?_map, hp]; rfl
        rw [take_snoc e4]
        exact hnm'
      · rintro I8 l' C'' h tk ⟨ys, hys, rfl, rfl⟩ k9 S19
        rw [List.take_of_length_le (by unfold namesOf; rw [List.length_map, hlen7]; exact Nat.le_refl _)] at hys
        obtain ⟨I9, k10, hnn, S20⟩ := ptFrz S19.swap hys
        clear S19
        walk_at "g"
        refine dNew (iK w) W S20 fun dl h15 S21 => ?_
        have S22 := S21.swap
        clear S20 S21
        walk_at "s"; intro h16 tk16 S23; clear S22
        walk_at "g"
        refine wpAny_For ?_
        walk_at "g"
        have hs9 := (hs7.le k9).le k10
        refine getNumbers W (R'.less (by omega)) S23 hs9 fun an vs I10 h17 tk17 k11 hln hvn S24 => ?_
        clear S23
        obtain ⟨oln, holn, hlon⟩ := hln
        refine itList S24 holn hlon fun it3 h18 tk18 N3 HI3 S25 => ?_
        clear S24
        obtain ⟨l9, t9, kvs9, vt9, hi9, ct1, ct2, ht9, htr9, hm9⟩ := hs9.ex
        refine forF HI3 R'.hd (fun j I11 l' C'' => ∃ lk, All2 (RowF w I11) (leftP (twG [] tb') (namesOf tb' (twG [] tb')) (tb'.take j)) lk ∧
          l' = [(Str.ofString "left", .ref dl), (Str.ofString "names", .ref dn), (Str.ofString "table", .ref ta), (Str.ofString "lap", .int (0 + i) tv), (Str.ofString "made", .ref y), (Str.ofString "shelf", .ref x)] ∧ C'' = (dl, DicC (iK w) dl lk) :: (it, N (i + 1)) :: C') S25.swap Le.rfl ⟨[], .nil, rfl, rfl⟩ ?_ ?_
        · rintro j I11 l' C'' h tk v hj ⟨lk, hlk, rfl, rfl⟩ k12 hv' S26 Nx hNx
          obtain ⟨m, tm, rfl, hm2⟩ := ints_of hvn (show vs[j]? = some v by simpa using hv')
          obtain ⟨⟨pk, g, d⟩, hp, hpk⟩ : ∃ p, tb'[j]? = some p ∧ p.1 = m := by
            rw [List.getElem?_map] at hm2
            cases e : tb'[j]? with
            | none => rw [e] at hm2; cases hm2
            | some p => rw [e] at hm2; exact ⟨p, rfl, by simpa using hm2⟩
          obtain rfl : pk = m := hpk
          obtain ⟨t', u, v', e1, e2, e3⟩ := tab_look ht9.al (look_at hs9.ok.pw hp)
          have k13 := k11.trans k12
          refine wpAny_assign_Name ?_
          walk_at "s"; intro h19 tk19 S27; clear S26
          refine wpAny_execs_cons ?_
          walk_at "g"
          refine getTb W S27 (hi9.le k13) ct1 (by rfl) fun tk20 => ?_
          walk_at "g"
          refine subD (ht9.dic.le k13) S27 intKey_is e1 fun tk21 => ?_
          refine asgn2 R'.hd S27 (e2.le k13) (fun h20 tk22 S28 => ?_) rfl rfl rfl
          clear S27
          walk_at "g"
          refine tupN S28 (by simp) fun xp I12 h21 k14 ixp S29 => ?_
          clear S28
          have ipx : PairF I12 xp (pk, g) := ⟨_, _, ixp⟩
          walk_at "g"
          have k15 : Le I9 I12 := k13.trans k14
          refine ptNotIn R' S29 (((hnf.le k9).le k10).le k15) ipx fun tk23 => ?_
          walk_at "g"
          have hsn : tb'.take (j + 1) = tb'.take j ++ [(pk, g, d)] := take_snoc hp
          refine ifB (fun hn => ?_) (fun hn => ?_)
          · walk_at "g"
            walk_at "k"
            refine ren_spec 6 W (R'.less (by omega)) S29 (e3.le k15) (hnn.le k15) (names_ok hs9.ok) fun v2 I13 h22 tk24 k16 hv2 S30 => ?_
            clear S29
            walk_at "g"
            refine tupN S30 (by simp) fun xq I14 h23 k17 ixq S31 => ?_
            clear S30
            walk_at "g"
            have hlk2 : lk.length ≤ 100 := by rw [← hlk.len]; unfold leftP; rw [List.length_map]; exact Nat.le_trans (List.length_filter_le _ _) (Nat.le_trans (List.length_take_le' _ _) (by omega))
            refine dSet (k := pk) (DicH.ofC S31.tail.tail.head) intKey_is (by omega) fun h24 tk25 he hx => ?_
            have S32 := S31.same3 he hx
            clear S31
            walk_at "g"
            have hk0 : ∀ p ∈ lk, p.1 ≠ pk := fun p hp' => by
              have : p.1 ∈ lk.map (·.1) := List.mem_map.mpr ⟨p, hp', rfl⟩
              rw [← rowKeys hlk] at this
              obtain ⟨r, hr, e⟩ := List.mem_map.mp this
              rw [← e]
              exact take_ne hs9.ok.pw hp (leftP_key hr)
            rw [stored_new hk0] at S32
            refine hNx ⟨I14, _, _, h24, _, rfl, k14.trans (k16.trans k17), ⟨lk ++ [(pk, .ref xq)], ?_, rfl, rfl⟩, S32.mono fun o ho => ho.sub (m := [(Str.ofString "left", .ref dl), (Str.ofString "names", .ref dn), (Str.ofString "table", .ref ta), (Str.ofString "lap", .int (0 + i) tv), (Str.ofString "made", .ref y), (Str.ofString "shelf", .ref x)]) ⟨rfl, rfl, rfl, rfl, rfl, rfl, trivial⟩⟩
            have e5 : leftP (twG [] tb') (namesOf tb' (twG [] tb')) (tb'.take (j + 1)) = leftP (twG [] tb') (namesOf tb' (twG [] tb')) (tb'.take j) ++ [(pk, g, ren (namesOf tb' (twG [] tb')) d)] := by
              rw [hsn]; unfold leftP; rw [List.filter_append, List.map_append]; simp only [List.filter_cons, hn, if_true, List.filter_nil, List.map_cons, List.map_nil]
            rw [e5]
            exact (hlk.imp fun _ _ z => z.le (k14.trans (k16.trans k17))).snoc ⟨rfl, xq, _, _, rfl, ixq, hv2.le k17⟩
          · walk_at "g"
            refine hNx ⟨I12, _, _, h21, _, rfl, k14, ⟨lk, ?_, rfl, rfl⟩, S29.mono fun o ho => ho.sub (m := [(Str.ofString "left", .ref dl), (Str.ofString "names", .ref dn), (Str.ofString "table", .ref ta), (Str.ofString "lap", .int (0 + i) tv), (Str.ofString "made", .ref y), (Str.ofString "shelf", .ref x)]) ⟨rfl, rfl, rfl, rfl, rfl, rfl, trivial⟩⟩
            have e5 : leftP (twG [] tb') (namesOf tb' (twG [] tb')) (tb'.take (j + 1)) = leftP (twG [] tb') (namesOf tb' (twG [] tb')) (tb'.take j) := by
              rw [hsn]; unfold leftP; rw [List.filter_append, List.map_append]; simp only [List.filter_cons, hn, Bool.false_eq_true, if_false, List.filter_nil, List.map_nil, List.append_nil]
            rw [e5]
            exact hlk.imp fun _ _ z => z.le k14
        · rintro I11 l' C'' h tk ⟨lk, hlk, rfl, rfl⟩ k12 S26
          rw [List.take_of_length_le (by rw [List.size_toArray, hvn.length, List.length_map]; exact Nat.le_refl _)] at hlk
          obtain ⟨odl, hodl, S27⟩ := S26.swap.freeze
          clear S26
          have k13 : Le I9 (Add I11 dl odl) := (k11.trans k12).trans Add.le
          walk_at "g"
          refine getTr W S27 (hi9.le k13) ct2 (handD htr9) fun tk19 => ?_
          walk_at "g"
          walk_at "k"
          refine ren_spec 6 W (R'.less (by omega)) S27 (htr9.le k13) (hnn.le k13) (names_ok hs9.ok) fun v2 I13 h22 tk24 k16 hv2 S30 => ?_
          clear S27
          walk_at "g"
          walk_at "k"
          obtain ⟨ltr9, rfl⟩ := hs9.tr
          refine newShelf2 W (R'.less (by omega)) S30 (by simp) ?_ fun y2 I14 h23 tk25 k17 iy2 S31 => ?_
          · intro hnone
            obtain ⟨xx, _, e9, _⟩ := hv2
            rw [hnone] at e9; cases e9
          clear S30
          walk_at "s"; intro h24 tk26 S32; clear S31
          walk_at "g"
          have k18 : Le I7 I14 := k9.trans (k10.trans (k13.trans (k16.trans k17)))
          refine hNx ⟨I14, _, _, h24, _, rfl, k7.trans (k8.trans k18), ⟨y2, leftOf tb' (twG [] tb'), ren (namesOf tb' (twG [] tb')) (.dict ltr9), ?_, hl', rfl, e⟩, S32.mono fun o ho => ho.sub ⟨rfl, rfl, trivial⟩⟩
          refine ⟨⟨_, dl, lk, v2, iy2, rfl, rfl, ⟨⟨odl, k17 _ _ (k16 _ _ Add.new), hodl⟩, hlk.imp fun _ _ z => z.le (Add.le.trans (k16.trans k17))⟩, hv2.le k17, fun n h1 h2 => by
            rw [List.lookup_cons, show (n == sTr) = false by simpa using h2, List.lookup_cons, show (n == sTb) = false by simpa using h1]; rfl⟩, left_ok hs9.ok, ⟨_, by rw [ren]⟩⟩
  · rintro I' l' C' h tk ⟨y, tb', tr', hs', hl', rfl, e⟩ k6 S8
    walk_at "g"
    rw [Nat.sub_self, laps] at hl'
    refine q y I' h _ (k2.trans (k3.trans (k4.trans (k5.trans k6)))) ?_ (e ▸ S8.tail)
    rw [← hl']; exact hs'
end
end
section -- U1
open PySem PySem.W PyProof.Rows PySem.Calls PySem.Spec PySem.SeqAt
set_option maxRecDepth 100000
set_option maxHeartbeats 1000000
set_option linter.unusedVariables false
section
variable {w : World} {A : Around} {E : Value → Shared → Prop} {b : Bs} {h : Heap} {tk : Nat} {h₀ : Heap} {I : Fz} {C : List Cell} {Q : Value → Shared → Prop} {n : Nat} {d tr : D} {v : Value} {x : Addr} {tb : Tab}
theorem unfL_snoc (f : Int → Int → T) : ∀ (l : List D) (d : D), unfL f (l ++ [d]) = unfL f l ++ [unfG f d]
  | [], d => rfl
  | a :: r, d => by rw [List.cons_append, unfL, unfL, unfL_snoc f r d]; rfl
theorem unfR_look (f : Int → Int → T) {k : Str} : ∀ {l : List (Str × D)}, (unfR f l).lookup k = (l.lookup k).map (unfG f)
  | [] => rfl
  | (j, d) :: r => by
    rw [unfR, List.lookup_cons, List.lookup_cons]
    split
    · rfl
    · exact unfR_look f
theorem tab_in {k : Int} {kvs : List (Int × Value)} (x : All2 (RowF w I) tb kvs) : (valueAt kvs k).isSome = (tb.lookup k).isSome := by
  cases e : tb.lookup k with
  | some p => obtain ⟨t, u, v, e1, _⟩ := tab_look (g := p.1) (d := p.2) x e; rw [e1]; rfl
  | none =>
    have : valueAt kvs k = none := by
      unfold valueAt
      rw [Option.map_eq_none_iff, List.find?_eq_none]
      intro p hp hh
      have : k ∈ tb.map (·.1) := rowKeys x ▸ List.mem_map.mpr ⟨p, hp, by simpa using hh⟩
      obtain ⟨r, hr, rfl⟩ := List.mem_map.mp this
      clear hp hh this x
      induction tb with
      | nil => cases hr
      | cons a t ih =>
        obtain ⟨ak, av⟩ := a
        rw [List.lookup_cons] at e
        split at e
        · cases e
        · rename_i hne
          rcases List.mem_cons.mp hr with rfl | hr
          · simp at hne
          · exact ih hr e
    rw [this]; rfl
theorem neI {a c : Int} {t u : Tok} (q : Q (.bool (a != c)) (sh b h tk)) : wpAny (model P0 w) A (compareOp .NotEq (.int a t) (.int c u)) Q E (sh b h tk) := ne_int q
theorem unf_ref_none {i g : Int} (h : tb.lookup i = none) : unf tb n (.ref i g) = nullT := by
  unfold unf; rw [unfG]; cases n <;> rw [drf, h]
theorem unf_ref_bad {i g : Int} {p : Int × D} (h : tb.lookup i = some p) (hg : p.1 ≠ g) : unf tb n (.ref i g) = nullT := by
  unfold unf; rw [unfG]; cases n <;> (rw [drf, h]; simp [hg])
theorem unf_ref_far {i g : Int} {d : D} (h : tb.lookup i = some (g, d)) : unf tb 0 (.ref i g) = .tup [.str (sx "far")] := by
  unfold unf; rw [unfG, drf, h]; simp
theorem unf_ref_to {i g : Int} {d : D} (h : tb.lookup i = some (g, d)) : unf tb (n + 1) (.ref i g) = .tup [.str (sx "to"), unf tb n d] := by
  unfold unf; rw [unfG, drf, h]; simp
noncomputable def rowU (f : Int → Int → T) (l : List (Str × D)) (k : Str) : Option (Str × T) := if k ∈ [sx "Size", sx "Prev"] then none else (l.lookup k).map fun d => (k, unfG f d)
theorem rowsU_eq (f : Int → Int → T) (l : List (Str × D)) : rowsU (unfR f l) = (((okSorted.filter (· ∈ l.map (·.1))).filterMap (rowU f l)).filter fun p => !isNullT p.2).map fun p => .tup [.str p.1, p.2] := by
  unfold rowsU
  generalize okSorted = ks
  induction ks with
  | nil => rfl
  | cons k ks ih =>
    rw [List.filterMap_cons, List.filter_cons]
    by_cases hk : k ∈ [sx "Size", sx "Prev"]
    · rw [if_pos hk]
      have e : rowU f l k = none := by unfold rowU; rw [if_pos hk]
      show ks.filterMap _ = _
      by_cases hm : k ∈ l.map (·.1)
      · rw [if_pos (decide_eq_true hm), List.filterMap_cons, e]; exact ih
      · rw [if_neg (by simpa using hm)]; exact ih
    · rw [if_neg hk, unfR_look]
      cases hl : l.lookup k with
      | none =>
        rw [if_neg (by
          intro hm
          rw [decide_eq_true_eq] at hm
          clear ih
          induction l with
          | nil => cases hm
          | cons a r ih2 =>
            rw [List.lookup_cons] at hl
            split at hl
            · cases hl
            · rename_i hne
              rcases List.mem_cons.mp hm with rfl | hm
              · simp at hne
              · exact ih2 hl hm)]
        exact ih
      | some d =>
        rw [if_pos (decide_eq_true (look_mem hl))]
        have e : rowU f l k = some (k, unfG f d) := by unfold rowU; rw [if_neg hk, hl]; rfl
        rw [List.filterMap_cons, e, List.filter_cons]
        cases hn : isNullT (unfG f d) with
        | true => simp only [Option.map_some, hn, if_true, Bool.not_true, Bool.false_eq_true, if_false]; exact ih
        | false => simp only [Option.map_some, hn, Bool.not_false, Bool.false_eq_true, if_true, if_false, List.map_cons]; rw [ih]
theorem unf_tup (tb : Tab) (n : Nat) (d : D) : ∃ k, unf tb n d = .tup k := by
  unfold unf
  cases d with
  | ref i g =>
    rw [unfG]
    cases n <;> rw [drf] <;> cases tb.lookup i with
    | none => exact ⟨_, rfl⟩
    | some p => dsimp only; split <;> exact ⟨_, rfl⟩
  | _ => rw [unfG]; exact ⟨_, rfl⟩
open Classical in
theorem isNull_dec (k : List T) : isNullT (.tup k) = decide (k = [.str (sx "null")]) := by
  unfold isNullT
  split
  · rename_i s e
    simp at e
    subst e
    by_cases h : s = sx "null" <;> simp [h]
  · rename_i e
    rw [decide_eq_false]
    intro h
    exact e _ (by rw [h])
theorem notinS {k a c : Str} {t t1 t2 : Tok} {y : Addr} (S : St h₀ I C h) (ht : TupF I y [.str a t1, .str c t2]) (q : Q (.bool (!decide (k ∈ [a, c]))) (sh b h tk)) : wpAny (model P0 w) A (compareOp .NotIn (.str k t) (.ref y)) Q E (sh b h tk) := by
  refine notin_tuple_strs (s := sh b h tk) (ys := [a, c]) ⟨_, S.fz _ _ ht, rfl, _, rfl⟩ (.cons _ _ (.cons _ _ .nil)) ?_
  have e2 : ([a, c].any (· == k)) = decide (k ∈ [a, c]) := by
    rw [Bool.eq_iff_iff, List.any_eq_true, decide_eq_true_eq]
    exact ⟨fun ⟨y, a, c⟩ => beq_iff_eq.mp c ▸ a, fun a => ⟨k, a, beq_self_eq_true k⟩⟩
  rw [e2]; exact q
noncomputable def R4 (I : Fz) (M : Nat) (p : Str × T) (v : Value) : Prop := ∃ t tk u, v = .ref t ∧ TupF I t [.str p.1 tk, u] ∧ IsTv I M p.2 u
theorem R4.le {J : Fz} {M : Nat} {p : Str × T} {v : Value} (x : R4 I M p v) (k : Le I J) : R4 J M p v := let ⟨t, tk, u, a, b, c⟩ := x; ⟨t, tk, u, a, b.le k, c.le k⟩
theorem r4_tv {M : Nat} {l : List (Str × T)} {vs : List Value} (x : All2 (R4 I (M + 1)) l vs) : All2 (IsTv I (M + 2)) (l.map fun p => .tup [.str p.1, p.2]) vs := by
  induction x with
  | nil => exact .nil
  | cons x y ih =>
    obtain ⟨t, tk, u, rfl, a, b⟩ := x
    exact .cons ⟨t, _, rfl, a, .cons ⟨_, rfl⟩ (.cons b .nil)⟩ ih
noncomputable def UnfSpec (w : World) (h₀ : Heap) (n m : Nat) : Prop := ∀ {A : Around} {E : Value → Shared → Prop} {b : Bs} {h : Heap} {tk : Nat} {I : Fz} {C : List Cell} {Q : Value → Shared → Prop} {d tr : D} {v : Value} {x : Addr} {tb : Tab} {tn : Tok} (W : Wd (KK w.params) h₀) (R : Rm A (m + 10 * n + 8)) (S : St h₀ I C h) (hs : ShelfF w I x tb tr) (hd : IsD w I m d v)
    (q : ∀ v' I' h' tk', Le I I' → IsTv I' (4 * m + 30 * n) (unf tb n d) v' → St h₀ I' C h' → Q v' (sh b h' tk')), wpAny (model P0 w) A (call (.ref 411) [.ref x, v, .int n tn]) Q E (sh b h tk)
theorem unf_step (n m : Nat) (hb : 4 * m + 30 * n ≤ 250) (ih : UnfSpec w h₀ n m) (ihr : ∀ k, n = k + 1 → UnfSpec w h₀ k 6) : UnfSpec w h₀ n (m + 1) := by
  intro A E b h tk I C Q d tr v x tb tn W R S hs hd q
  refine callF (binds := [(Str.ofString "shelf", .ref x), (Str.ofString "value", v), (Str.ofString "deep", .int n tn)]) (lo := []) (cl := fun L => [(Str.ofString "deep", L + 3), (Str.ofString "value", L + 2), (Str.ofString "shelf", L + 1)]) (cs := fun L => [(L + 3, .int n tn), (L + 2, v), (L + 1, .ref x)])
    W R S (f_law_unfolded w.params) (fun pm => BindsTo.of_eq (by kernel_rfl)) (by kernel_rfl) (by decide +kernel) (fun L => by kernel_rfl) (by kernel_rfl) (fun L => by kernel_rfl) rfl rfl rfl fun A' L I1 h1 tk1 R' k1 hcs S1 => ?_
  have c1 : CellF I1 (L + 3) (.int n tn) := hcs (L + 3, .int n tn) (by simp)
  have c2 : CellF I1 (L + 2) v := hcs (L + 2, v) (by simp)
  have c3 : CellF I1 (L + 1) (.ref x) := hcs (L + 1, .ref x) (by simp)
  clear hcs
  replace hd := hd.le k1
  replace hs := hs.le k1
  obtain ⟨lx, t, kvs, vt, hi, at1, at2, ht, htr, hm⟩ := hs.ex
  refine wpAny_execs_cons ?_
  walk_at "g"
  refine iiD .ref W S1 hd fun tk2 => ?_
  walk_at "g"
  cases d with
  | ref i g =>
    rw [show isK .ref (D.ref i g) = true from rfl]
    obtain ⟨y, t1, t2, rfl, iy, _⟩ := id hd
    walk_at "g"
    refine getF W S1 iy (v := .int i t2) (by rfl) (by rfl) (by kernel_rfl) (by kernel_rfl) (attr := none) (by kernel_rfl) (by kernel_rfl) fun tk3 => ?_
    walk_at "g"
    refine getTb W S1 hi at1 (by rfl) fun tk4 => ?_
    walk_at "g"
    refine dNotIn (ht.dic.dh S1) intKey_is fun tk5 => ?_
    walk_at "g"
    rw [tab_in ht.al]
    refine ifB (fun e => ?_) (fun e => ?_)
    · have hlk : tb.lookup i = none := by cases hl : tb.lookup i with | none => rfl | some p => rw [hl] at e; cases e
      walk_at "g"
      refine tupN S1 (by simp) fun xt I2 h2 k2 ixt S2 => ?_
      refine q _ _ _ _ (k1.trans k2) ?_ S2.tail
      rw [unf_ref_none hlk]
      exact IsTv.to (n := 2) ⟨xt, _, rfl, ixt, .cons ⟨_, rfl⟩ .nil⟩ (by omega)
    · obtain ⟨⟨g', d'⟩, hlk⟩ : ∃ p, tb.lookup i = some p := by cases hl : tb.lookup i with | none => rw [hl] at e; cases e | some p => exact ⟨p, rfl⟩
      obtain ⟨t', u, v', e1, e2, e3⟩ := tab_look ht.al hlk
      walk_at "g"
      refine getTb W S1 hi at1 (by rfl) fun tk6 => ?_
      walk_at "g"
      refine getF W S1 iy (v := .int i t2) (by rfl) (by rfl) (by kernel_rfl) (by kernel_rfl) (attr := none) (by kernel_rfl) (by kernel_rfl) fun tk7 => ?_
      refine subD ht.dic S1 intKey_is e1 fun tk8 => ?_
      walk_at "g"
      refine itemT e2 S1 (by decide) (by decide) (v := .int g' u) rfl ?_
      walk_at "g"
      refine getF W S1 iy (v := .int g t1) (by rfl) (by rfl) (by kernel_rfl) (by kernel_rfl) (attr := none) (by kernel_rfl) (by kernel_rfl) fun tk9 => ?_
      refine neI ?_
      walk_at "g"
      refine ifB (fun eg => ?_) (fun eg => ?_)
      · walk_at "g"
        refine tupN S1 (by simp) fun xt I2 h2 k2 ixt S2 => ?_
        refine q _ _ _ _ (k1.trans k2) ?_ S2.tail
        rw [unf_ref_bad hlk (by simpa using eg)]
        exact IsTv.to (n := 2) ⟨xt, _, rfl, ixt, .cons ⟨_, rfl⟩ .nil⟩ (by omega)
      · obtain rfl : g' = g := by simpa using eg
        walk_at "g"
        cases n with
        | zero =>
          rw [decide_eq_false (show ¬ ((0 : Nat) : Int) > 0 by omega)]
          walk_at "g"
          refine tupN S1 (by simp) fun xt I2 h2 k2 ixt S2 => ?_
          refine q _ _ _ _ (k1.trans k2) ?_ S2.tail
          rw [unf_ref_far hlk]
          exact IsTv.to (n := 2) ⟨xt, _, rfl, ixt, .cons ⟨_, rfl⟩ .nil⟩ (by omega)
        | succ n =>
          rw [decide_eq_true (show ((n + 1 : Nat) : Int) > 0 by omega)]
          walk_at "g"
          refine getTb W S1 hi at1 (by rfl) fun tk10 => ?_
          walk_at "g"
          refine getF W S1 iy (v := .int i t2) (by rfl) (by rfl) (by kernel_rfl) (by kernel_rfl) (attr := none) (by kernel_rfl) (by kernel_rfl) fun tk11 => ?_
          refine subD ht.dic S1 intKey_is e1 fun tk12 => ?_
          walk_at "g"
          refine itemT e2 S1 (by decide) (by decide) (v := v') rfl ?_
          walk_at "g"
          walk_at "k"
          rw [show ((n + 1 : Nat) : Int) - 1 = (n : Int) by omega]
          refine ihr n rfl W (R'.less (by omega)) S1 hs e3 fun v2 I2 h2 tk13 k2 hv2 S2 => ?_
          clear S1
          walk_at "g"
          refine tupN S2 (by simp) fun xt I3 h3 k3 ixt S3 => ?_
          refine q _ _ _ _ (k1.trans (k2.trans k3)) ?_ S3.tail
          rw [unf_ref_to hlk]
          exact IsTv.to (n := 4 * 6 + 30 * n + 1) ⟨xt, _, rfl, ixt, .cons (by rw [show 4 * 6 + 30 * n = 23 + 30 * n + 1 by omega]; exact ⟨_, rfl⟩) (.cons (hv2.le k3) .nil)⟩ (by omega)
  | arr l =>
    rw [show isK .ref (D.arr l) = false from rfl]
    walk_at "g"
    refine iiD .list W S1 hd fun tk3 => ?_
    rw [show isK .list (D.arr l) = true from rfl]
    obtain ⟨xl, vs, ol, rfl, hol, hlo, hal, hlen⟩ := id hd
    walk_at "g"
    refine compF (h₀ := h₀) (cl := [(Str.ofString "shelf", L + 1), (Str.ofString "deep", L + 3)]) R'.hd (by kernel_rfl) (by kernel_rfl) rfl (by kernel_rfl) (by kernel_rfl) fun HP hHP => ?_
    walk_at "g"
    refine itList S1 hol hlo fun it h5 tk5 N HI S5 => ?_
    clear S1
    refine hHP ⟨it, I1, I1, _, _, N, h5, tk5, _, b, fun i I' ys C' => All2 (IsTv I' (4 * m + 30 * n)) (unfL (drf tb n) (l.take i)) ys ∧ C' = (L, Loc []) :: C, rfl, rfl, HI, by rw [List.size_toArray, ← hal.len]; omega, Le.rfl, S5, ⟨.nil, rfl⟩, ?_, ?_⟩
    · rintro i I' ys C' Lc acc h tk v hi' ⟨hys, rfl⟩ k3 hv S6 Nx hNx
      obtain ⟨d, hd1, hd2⟩ := hal.at (by simpa using hv)
      replace c1 := c1.le k3; replace c3 := c3.le k3
      refine wpAny_tests_nil ?_
      walk_at "g"
      walk_at "k"
      refine ih W (R'.less (by omega)) S6 (hs.le k3) (hd2.le k3) fun v' I3 h6 tk6 k4 hv' S7 => ?_
      refine hNx ⟨I3, _, h6, tk6, rfl, k4, ⟨?_, rfl⟩, S7⟩
      rw [take_snoc hd1, unfL_snoc]
      exact (hys.imp fun _ _ y => y.le k4).snoc hv'
    · rintro I' ys C' acc h tk ⟨hys, rfl⟩ k3 S6
      rw [List.take_of_length_le (by rw [List.size_toArray, ← hal.len]; exact Nat.le_refl _)] at hys
      obtain ⟨I3, k4, hl3, S7⟩ := S6.frzL
      walk_at "g"
      refine tupN S7 (by simp) fun xt I4 h7 k5 ixt S8 => ?_
      refine q _ _ _ _ (k1.trans (k3.trans (k4.trans k5))) ?_ S8.tail
      show IsTv I4 _ (unfG (drf tb n) (.arr l)) _
      rw [unfG]
      exact IsTv.to (n := 4 * m + 30 * n + 2) ⟨xt, _, rfl, ixt, .cons ⟨_, rfl⟩ (.cons ⟨acc, ys, rfl, hl3.le k5, hys.imp fun _ _ y => y.le (k4.trans k5)⟩ .nil)⟩ (by omega)
  | stream d o =>
    rw [show isK .ref (D.stream d o) = false from rfl]
    walk_at "g"
    refine iiD .list W S1 hd fun tk3 => ?_
    rw [show isK .list (D.stream d o) = false from rfl]
    walk_at "g"
    refine iiD .stream W S1 hd fun tk4 => ?_
    rw [show isK .stream (D.stream d o) = true from rfl]
    obtain ⟨y, hv, u, rfl, iy, hh, _, ho⟩ := id hd
    walk_at "g"
    refine getF W S1 iy (v := .bytes o u) (by rfl) (by rfl) (by kernel_rfl) (by kernel_rfl) (attr := none) (by kernel_rfl) (by kernel_rfl) fun tk5 => ?_
    walk_at "g"
    refine getF W S1 iy (v := hv) (by rfl) (handD hh) (by kernel_rfl) (by kernel_rfl) (attr := none) (by kernel_rfl) (by kernel_rfl) fun tk6 => ?_
    walk_at "g"
    walk_at "k"
    refine ih W (R'.less (by omega)) S1 hs hh fun v2 I2 h2 tk7 k2 hv2 S2 => ?_
    walk_at "g"
    refine tupN S2 (by simp) fun xt I3 h3 k3 ixt S3 => ?_
    refine q _ _ _ _ (k1.trans (k2.trans k3)) ?_ S3.tail
    show IsTv I3 _ (unfG (drf tb n) (.stream d o)) _
    rw [unfG]
    have hz : ∃ z, 4 * m + 30 * n = z + 1 := ⟨4 * m + 30 * n - 1, by cases m with | zero => exact hh.elim | succ m => omega⟩
    obtain ⟨z, hz⟩ := hz
    exact IsTv.to (n := 4 * m + 30 * n + 1) ⟨xt, _, rfl, ixt, .cons (by rw [hz]; exact ⟨_, rfl⟩) (.cons (by rw [hz]; exact ⟨_, rfl⟩) (.cons (hv2.le k3) .nil))⟩ (by omega)
  | dict l =>
    rw [show isK .ref (D.dict l) = false from rfl]
    walk_at "g"
    refine iiD .list W S1 hd fun tk3 => ?_
    rw [show isK .list (D.dict l) = false from rfl]
    walk_at "g"
    refine iiD .stream W S1 hd fun tk4 => ?_
    rw [show isK .stream (D.dict l) = false from rfl]
    walk_at "g"
    refine iiD .dict W S1 hd fun tk5 => ?_
    rw [show isK .dict (D.dict l) = true from rfl]
    obtain ⟨xd, kvs2, rfl, hdf, hal, hlen, hok⟩ := id hd
    walk_at "g"
    have hnd : (l.map (·.1)).Nodup := rows_keys hal ▸ dic_nodup hdf
    refine compA (h₀ := h₀) (cl := [(Str.ofString "value", L + 2), (Str.ofString "shelf", L + 1), (Str.ofString "deep", L + 3)]) R'.hd (by rfl) (by rfl) (by with_unfolding_all rfl) (by kernel_rfl) (by kernel_rfl) rfl (by kernel_rfl) (by kernel_rfl) fun HP hHP => ?_
    walk_at "g"
    refine sortStr (R'.less (by omega)) S1 hdf (by rw [← hal.len]; omega) fun xs vs ss I3 h5 tk6 k3 hls hss hperm hsort S5 => ?_
    clear S1
    obtain ⟨ol, hol, hlo⟩ := hls
    refine itList S5 hol hlo fun it h6 tk7 N HI S6 => ?_
    have hse : ss = okSorted.filter (· ∈ l.map (·.1)) := by
      rw [rows_keys hal]
      exact sorted_eq hsort hperm (dic_nodup hdf) fun k hk => by
        rw [← rows_keys hal] at hk
        obtain ⟨p, hp, rfl⟩ := List.mem_map.mp hk
        exact ok_sorted _ (hok p hp).1
    have hsl : ss.length ≤ 10 := by rw [hperm.length_eq, List.length_map, ← hal.len]; exact hlen
    refine hHP ⟨it, I3, I3, _, _, N, h6, tk7, _, b, fun i I' ys C' => All2 (R4 I' (4 * m + 30 * n)) ((ss.take i).filterMap (rowU (drf tb n) l)) ys ∧ C' = (L, Loc []) :: C, rfl, rfl, HI, by rw [List.size_toArray, StrsAre.len_eq hss]; omega, Le.rfl, S6, ⟨.nil, rfl⟩, ?_, ?_⟩
    · rintro i I' ys C' Lc acc h tk v hi' ⟨hys, rfl⟩ k4 hv S7 Nx hNx
      obtain ⟨y, ty, rfl, hsy⟩ := hss.item i v (by simpa using hv)
      have hy : y ∈ l.map (·.1) := by rw [rows_keys hal]; exact hperm.mem_iff.mp (List.mem_of_getElem? hsy)
      obtain ⟨d, u, e1, e2, e3⟩ := rows_look hal hy
      refine wpAny_tests_one ?_
      walk_at "g"
      refine tupN S7 (by simp) fun xp I4 h7 k5 ixp S8 => ?_
      clear S7
      walk_at "g"
      refine notinS S8 ixp ?_
      walk_at "g"
      have kk : Le I1 I4 := k3.trans (k4.trans k5)
      replace c1 := c1.le kk; replace c2 := c2.le kk; replace c3 := c3.le kk
      refine ifB (fun hn => ?_) (fun hn => ?_)
      · have hn' : y ∉ [sx "Size", sx "Prev"] := fun z => by rw [decide_eq_true z] at hn; cases hn
        walk_at "g"
        refine subD (hdf.le kk) S8 (strKind_is P0 w y ty) e2 fun tk8 => ?_
        walk_at "g"
        walk_at "k"
        refine ih W (R'.less (by omega)) S8 (hs.le kk) (e3.le kk) fun v' I5 h8 tk9 k6 hv' S9 => ?_
        walk_at "g"
        refine tupN S9 (by simp) fun xt I6 h9 k7 ixt S10 => ?_
        refine hNx ⟨I6, _, h9, _, rfl, k5.trans (k6.trans k7), ⟨?_, rfl⟩, S10⟩
        rw [take_snoc hsy, List.filterMap_append]
        have : rowU (drf tb n) l y = some (y, unfG (drf tb n) d) := by unfold rowU; rw [if_neg hn', e1]; rfl
        simp only [List.filterMap_cons, this, List.filterMap_nil]
        exact (hys.imp fun _ _ z => z.le (k5.trans (k6.trans k7))).snoc ⟨xt, _, v', rfl, ixt, hv'.le k7⟩
      · have hn' : y ∈ [sx "Size", sx "Prev"] := by
          by_cases z : y ∈ [sx "Size", sx "Prev"]
          · exact z
          · rw [decide_eq_false z] at hn; cases hn
        refine hNx ⟨I4, _, h7, _, rfl, k5, ⟨?_, rfl⟩, S8⟩
        rw [take_snoc hsy, List.filterMap_append]
        have : rowU (drf tb n) l y = none := by unfold rowU; rw [if_pos hn']
        simp only [List.filterMap_cons, this, List.filterMap_nil, List.append_nil]
        exact hys.imp fun _ _ z => z.le k5
    · rintro I' ys C' ⟨hys, rfl⟩ k4
      refine ⟨_, C, rfl, fun acc h7 tk8 S7 => ?_⟩
      rw [List.take_of_length_le (by rw [List.size_toArray, StrsAre.len_eq hss]; exact Nat.le_refl _)] at hys
      obtain ⟨I4, k5, hl3, S8⟩ := S7.swap.frzL
      clear S7
      walk_at "g"
      refine compF (h₀ := h₀) (cl := []) R'.hd (by kernel_rfl) (by kernel_rfl) rfl (by kernel_rfl) (by kernel_rfl) fun HP hHP => ?_
      walk_at "g"
      obtain ⟨of, hof, hlof⟩ := hl3
      refine itList S8 hof hlof fun it2 h8 tk9 N2 HI2 S9 => ?_
      have hys2 := hys.imp fun _ _ y => y.le k5
      have hrl : (ss.filterMap (rowU (drf tb n) l)).length = ys.length := hys.len
      have hrl2 : ys.length ≤ 10 := by rw [← hrl]; exact Nat.le_trans (List.length_filterMap_le ..) hsl
      have hM : ∀ {d : D} {u : Value}, IsTv I4 (4 * m + 30 * n) (unf tb n d) u → 0 < 4 * m + 30 * n := fun {d u} hu => by
        rcases Nat.eq_zero_or_pos (4 * m + 30 * n) with e | e
        · rw [e] at hu; exact hu.elim
        · exact e
      refine hHP ⟨it2, I4, I4, _, _, N2, h8, tk9, _, b, fun i I' zs C' => All2 (R4 I' (4 * m + 30 * n)) (((ss.filterMap (rowU (drf tb n) l)).take i).filter fun p => !isNullT p.2) zs ∧ C' = (L, Loc [(Str.ofString "rows", .ref acc)]) :: C, rfl, rfl, HI2, by rw [List.size_toArray]; omega, Le.rfl, S9, ⟨.nil, rfl⟩, ?_, ?_⟩
      · rintro i I5 zs C' Lc acc2 h tk v hi' ⟨hzs, rfl⟩ k6 hv S10 Nx hNx
        obtain ⟨p, hp, hR⟩ := hys2.at (by simpa using hv)
        obtain ⟨tt, tk', u, rfl, itt, hu⟩ := id hR
        obtain ⟨pk, pt⟩ := p
        obtain ⟨k', hk', hpe⟩ := List.mem_filterMap.mp (List.mem_of_getElem? hp)
        obtain ⟨d', rfl⟩ : ∃ d', pt = unf tb n d' := by
          unfold rowU at hpe
          split at hpe
          · cases hpe
          · obtain ⟨d', _, e⟩ := Option.map_eq_some_iff.mp hpe
            cases e; exact ⟨d', rfl⟩
        obtain ⟨kt, hkt⟩ := unf_tup tb n d'
        refine wpAny_tests_one ?_
        walk_at "g"
        refine itemT (itt.le k6) S10 (by decide) (by decide) (v := u) rfl ?_
        walk_at "g"
        refine tupN S10 (by simp) fun xn I6 h9 k7 ixn S11 => ?_
        clear S10
        have hpos := hM hu
        obtain ⟨M, hMe⟩ : ∃ M, 4 * m + 30 * n = M + 1 := ⟨4 * m + 30 * n - 1, by omega⟩
        dsimp only at hu
        have hu2 := (hu.le k6).le k7
        rw [hkt, hMe] at hu2
        obtain ⟨xu, hxu⟩ : ∃ xu, u = .ref xu := let ⟨a, _, e, _⟩ := hu2; ⟨a, e⟩
        subst hxu
        refine neTup (m := 1) (k := [.str (sx "null")]) (R'.less (by omega) : Rm A' 5) S11 (by omega) hu2 ⟨xn, _, rfl, ixn, .cons ⟨_, rfl⟩ .nil⟩ ?_
        rw [← isNull_dec, ← hkt]
        walk_at "g"
        refine ifB (fun hn => ?_) (fun hn => ?_)
        · walk_at "g"
          refine hNx ⟨I6, _, _, _, rfl, k7, ⟨?_, rfl⟩, S11⟩
          rw [take_snoc hp, List.filter_append]
          simp only [List.filter_cons, hn, if_true, List.filter_nil]
          exact (hzs.imp fun _ _ z => z.le k7).snoc (hR.le (k6.trans k7))
        · refine hNx ⟨I6, _, _, _, rfl, k7, ⟨?_, rfl⟩, S11⟩
          rw [take_snoc hp, List.filter_append]
          simp only [List.filter_cons, hn, List.filter_nil, Bool.false_eq_true, if_false, List.append_nil]
          exact hzs.imp fun _ _ z => z.le k7
      · rintro I5 zs C' acc2 h tk ⟨hzs, rfl⟩ k6 S10
        rw [List.take_of_length_le (by rw [List.size_toArray, hrl]; exact Nat.le_refl _)] at hzs
        obtain ⟨I6, k7, hpl, S11⟩ := S10.frzL
        walk_at "g"
        refine tupN S11 (by simp) fun xt I7 h9 k8 ixt S12 => ?_
        refine q _ _ _ _ (k1.trans (k3.trans (k4.trans (k5.trans (k6.trans (k7.trans k8)))))) ?_ S12.tail
        show IsTv I7 _ (unfG (drf tb n) (.dict l)) _
        rw [unfG, rowsU_eq, ← hse]
        have hz2 : All2 (R4 I7 (4 * m + 30 * n + 1)) ((ss.filterMap (rowU (drf tb n) l)).filter fun p => !isNullT p.2) zs := hzs.imp fun _ _ z => let ⟨a, b, c, d, e, f⟩ := z.le (k7.trans k8); ⟨a, b, c, d, e, f.up⟩
        exact IsTv.to (n := 4 * m + 30 * n + 4) ⟨xt, _, rfl, ixt, .cons ⟨_, rfl⟩ (.cons ⟨acc2, zs, rfl, hpl.le k8, r4_tv hz2⟩ .nil)⟩ (by omega)
  | null =>
    rw [show isK .ref D.null = false from rfl]
    walk_at "g"
    refine iiD .list W S1 hd fun tk3 => ?_
    rw [show isK .list D.null = false from rfl]
    walk_at "g"
    refine iiD .stream W S1 hd fun tk4 => ?_
    rw [show isK .stream D.null = false from rfl]
    walk_at "g"
    refine iiD .dict W S1 hd fun tk5 => ?_
    rw [show isK .dict D.null = false from rfl]
    walk_at "g"
    walk_at "k"
    refine told_spec (m + 1) W (R'.less (by omega)) S1 hd fun v' I2 h2 tk6 k2 hv S2 => ?_
    exact q _ _ _ _ (k1.trans k2) (IsTv.to (n := 2 * (m + 1)) (by show IsTv I2 _ (unfG _ .null) _; rw [unfG]; rw [told] at hv; exact hv) (by omega)) S2.tail
  | int i =>
    rw [show isK .ref (D.int i) = false from rfl]
    walk_at "g"
    refine iiD .list W S1 hd fun tk3 => ?_
    rw [show isK .list (D.int i) = false from rfl]
    walk_at "g"
    refine iiD .stream W S1 hd fun tk4 => ?_
    rw [show isK .stream (D.int i) = false from rfl]
    walk_at "g"
    refine iiD .dict W S1 hd fun tk5 => ?_
    rw [show isK .dict (D.int i) = false from rfl]
    walk_at "g"
    walk_at "k"
    refine told_spec (m + 1) W (R'.less (by omega)) S1 hd fun v' I2 h2 tk6 k2 hv S2 => ?_
    exact q _ _ _ _ (k1.trans k2) (IsTv.to (n := 2 * (m + 1)) (by show IsTv I2 _ (unfG _ (.int i)) _; rw [unfG]; rw [told] at hv; exact hv) (by omega)) S2.tail
  | name i =>
    rw [show isK .ref (D.name i) = false from rfl]
    walk_at "g"
    refine iiD .list W S1 hd fun tk3 => ?_
    rw [show isK .list (D.name i) = false from rfl]
    walk_at "g"
    refine iiD .stream W S1 hd fun tk4 => ?_
    rw [show isK .stream (D.name i) = false from rfl]
    walk_at "g"
    refine iiD .dict W S1 hd fun tk5 => ?_
    rw [show isK .dict (D.name i) = false from rfl]
    walk_at "g"
    walk_at "k"
    refine told_spec (m + 1) W (R'.less (by omega)) S1 hd fun v' I2 h2 tk6 k2 hv S2 => ?_
    exact q _ _ _ _ (k1.trans k2) (IsTv.to (n := 2 * (m + 1)) (by show IsTv I2 _ (unfG _ (.name i)) _; rw [unfG]; rw [told] at hv; exact hv) (by omega)) S2.tail
theorem unf_spec : ∀ n m : Nat, n ≤ 3 → m ≤ 6 → UnfSpec w h₀ n m := by
  intro n
  induction n with
  | zero =>
    intro m
    induction m with
    | zero => intro _ _ A E b h tk I C Q d tr v x tb tn W R S hs hd q; exact hd.elim
    | succ m ih => intro h1 h2; exact unf_step 0 m (by omega) (ih h1 (by omega)) fun k e => by omega
  | succ n ihn =>
    intro m
    induction m with
    | zero => intro _ _ A E b h tk I C Q d tr v x tb tn W R S hs hd q; exact hd.elim
    | succ m ih => intro h1 h2; exact unf_step (n + 1) m (by omega) (ih h1 (by omega)) fun k e => by obtain rfl : n = k := by omega
                                                                                                     exact ihn 6 (by omega) (by omega)
end
end
section -- Q1
open PySem PySem.W PyProof.Rows PySem.Calls PySem.Spec PySem.SeqAt
set_option maxRecDepth 100000
set_option linter.unusedVariables false
section
variable {w : World} {A : Around} {E : Value → Shared → Prop} {b : Bs} {h : Heap} {tk : Nat} {h₀ : Heap} {I I₁ : Fz} {C : List Cell} {Q : Value → Shared → Prop} {n : Nat} {a it : Addr}
noncomputable def SetP (w : World) (acc : List Str) : Obj → Prop := fun o => ∀ (h : Heap) (a : Addr), h.get? a = some o → h.SetOf (sK w) a (fun k => decide (k ∈ acc)) acc.length
theorem SetP.of {acc : List Str} (hS : h.SetOf (sK w) a (fun k => decide (k ∈ acc)) acc.length) : ∃ o, h.get? a = some o ∧ SetP w acc o := by
  obtain ⟨o, es, ep, t, ho, rest⟩ := hS
  exact ⟨o, ho, fun h' a' e => ⟨o, es, ep, t, e, rest⟩⟩
theorem set_loop {ss : List Str} {P : Nat → Value → Prop} {N : Nat → Obj → Prop} {R : Result → Shared → Prop} (HI : Iter w I₁ it n P N) (hA : A.handled = none) (hP : ∀ i v, P i v → ∃ k t, v = .str k t ∧ ss[i]? = some k) (hle : Le I₁ I)
    (hn : ss.length = n) (hz : n + 1 < scanBound) (hR : ∀ h' tk' acc, St h₀ I ((a, SetP w acc) :: C) h' → acc.Nodup → (∀ k, k ∈ acc ↔ k ∈ ss) → R (.ok (.ret .none)) (sh b h' tk')) :
    ∀ (k i : Nat) (h : Heap) (tk : Nat) (acc : List Str), n - i = k → i ≤ n → acc.Nodup → (∀ k, k ∈ acc ↔ k ∈ ss.take i) → acc.length ≤ i → St h₀ I ((a, SetP w acc) :: (it, N i) :: C) h →
      codeAny (model P0 w) A (.builtin "set.update.loop" ⟨[.ref a, .ref it], []⟩) R (sh b h tk) := by
  intro k
  induction k with
  | zero =>
    intro i h tk acc hk hi nd hm hl S
    obtain rfl : i = n := by omega
    refine codeAny_builtin PyProof.Rows.F.entry_set_update_loop ?_
    rw [Around.under_plainId PyProof.Rows.F.plain_set_update_loop _]
    show wpAny _ A.in1 (pyNext (.ref it) >>= _) _ _ _
    refine wpAny_bind (HI.over hA hle S fun h' tk' S' => ?_)
    show wpAny _ A.in1 (ret Value.none) _ _ _
    rw [List.take_of_length_le (by omega)] at hm
    exact wpAny_pure (hR h' tk' acc S' nd hm)
  | succ k ih =>
    intro i h tk acc hk hi nd hm hl S
    refine codeAny_builtin PyProof.Rows.F.entry_set_update_loop ?_
    rw [Around.under_plainId PyProof.Rows.F.plain_set_update_loop _]
    show wpAny _ A.in1 (pyNext (.ref it) >>= _) _ _ _
    refine wpAny_bind (HI.next hA hle (by omega) S fun v h' tk' hPv S' => ?_)
    obtain ⟨ky, t, rfl, hky⟩ := hP i v hPv
    show wpAny _ A.in1 (holding [Value.str ky t] (setAdd a (.str ky t)) >>= _) _ _ _
    refine wpAny_bind (wpAny_holding ?_)
    unfold setAdd
    refine wpAny_holding ?_
    refine wpAny_bind ((sK w).pyHash (k := ky) (strKind_is P0 w ky t) ?_)
    obtain ⟨o, ho, hSo⟩ := S'.head
    refine wpAny_setAddHashed_of (knd := sK w) (s := sh b h' (tk' + 1)) (strKind_is P0 w ky t) rfl (hSo _ _ ho) (by omega) fun h2 hsb hS2 => ?_
    have e : ∃ acc' : List Str, acc'.Nodup ∧ (∀ k, k ∈ acc' ↔ k ∈ ss.take (i + 1)) ∧ acc'.length ≤ i + 1 ∧ h2.SetOf (sK w) a (fun k => decide (k ∈ acc')) acc'.length := by
      have hf : ∀ (S S' : Str → Bool) (m m' : Nat), (∀ k, S k = S' k) → m = m' → h2.SetOf (sK w) a S m → h2.SetOf (sK w) a S' m' := fun S S' m m' e1 e2 x => by
        obtain rfl : S = S' := funext e1
        exact e2 ▸ x
      have htk : ∀ k, k ∈ ss.take (i + 1) ↔ k ∈ ss.take i ∨ k = ky := fun k => by rw [take_snoc hky, List.mem_append, List.mem_singleton]
      by_cases hc : ky ∈ acc
      · refine ⟨acc, nd, fun k => ?_, by omega, hf _ _ _ _ (fun k => ?_) (by rw [if_pos (decide_eq_true hc)]) hS2⟩
        · rw [htk, ← hm]; exact ⟨.inl, fun h => h.elim id (fun (e : k = ky) => e ▸ hc)⟩
        · by_cases hk : k ∈ acc
          · rw [decide_eq_true hk]; rfl
          · rw [decide_eq_false hk, decide_eq_false (fun (e : k = ky) => hk (e ▸ hc))]; rfl
      · refine ⟨acc ++ [ky], ?_, fun k => ?_, by simp; omega, hf _ _ _ _ (fun k => ?_) (by rw [if_neg (by simpa using hc)]; simp) hS2⟩
        · rw [List.nodup_append]
          exact ⟨nd, by simp, fun x hx y hy e => hc (by rw [List.mem_singleton.mp hy] at e; exact e ▸ hx)⟩
        · rw [htk, ← hm, List.mem_append, List.mem_singleton]
        · rw [Bool.eq_iff_iff, Bool.or_eq_true, decide_eq_true_eq, decide_eq_true_eq, decide_eq_true_eq, List.mem_append, List.mem_singleton]
    obtain ⟨acc', nd', hm', hl', hS3⟩ := e
    refine wpAny_pure ⟨plainId_quiet PyProof.Rows.F.plain_set_update_loop _, ih (i + 1) h2 _ acc' (by omega) (by omega) nd' hm' hl' ?_⟩
    exact S'.same hsb.extBut (SetP.of hS3)
set_option maxHeartbeats 3200000 in
theorem setOfL {l : Addr} {vs : List Value} {ss : List Str} (R : Rm A 5) (S : St h₀ I C h) (hl : ListF I l vs) (hs : StrsAre vs ss) (hz : ss.length + 1 < scanBound)
    (q : ∀ a h' tk' acc, St h₀ I ((a, SetP w acc) :: C) h' → acc.Nodup → (∀ k, k ∈ acc ↔ k ∈ ss) → Q (.ref a) (sh b h' tk')) : wpAny (model P0 w) A (call (.type "set") [.ref l]) Q E (sh b h tk) := by
  obtain ⟨c, tl, hmro⟩ := PySem.F.called_set.mro
  have hmade := PySem.F.called_set.made
  have hsub := PySem.F.called_set.sub
  refine wpAny_call (codeAny_of_tree ?_)
  show wpAny _ _ (callAny (.type "set") _) _ _ _
  refine wpAny_pure ⟨Code.quiet_builtin _ (by decide +kernel), codeAny_builtin PySem.F.entry_type_call ?_⟩
  rw [Around.under_plain (weight_type_call_type "set" [.ref l] []) rfl]
  have h1 := PySem.F.called_set.notType
  have h2 := PySem.F.called_set.canCreate
  have hct := PySem.F.typeCall_set_1 (.ref l)
  repeat (any_goals (first | assumption | wp_step))
  refine codeAny_mono (code_set_new_1 (.ref l) (E := E) (Q₁ := fun obj s₁ => ∃ led : Bool, obj = .ref h.objs.size ∧ s₁ = sh b (h.push { cls := .type "set", dict := none, data := .set #[] 0 (.fresh 0 0 led) }) tk) fun led => ⟨led, rfl, rfl⟩) fun r s₁ hr => ?_
  cases r with
  | error e => exact hr
  | ok fl =>
    cases fl with
    | ret obj =>
      obtain ⟨led, rfl, rfl⟩ := hr
      have S1 : St h₀ I ((h.objs.size, SetP w []) :: C) (h.push { cls := .type "set", dict := none, data := .set #[] 0 (.fresh 0 0 led) }) :=
        S.push (fun h' a' e => (setObjOf_fresh (knd := sK w) led).setOf e (by unfold scanBound; decide)) rfl
      have hT : Shared.TypeIs (sh b (h.push { cls := .type "set", dict := none, data := .set #[] 0 (.fresh 0 0 led) }) tk) (.ref h.objs.size) "set" := ⟨_, Heap.get?_push_size _ rfl, rfl⟩
      have hli := PySem.F.called_set.init.lookup
      have hbi := PySem.F.called_set.init.bind (.ref h.objs.size)
      repeat (any_goals (first | assumption | wp_step))
      refine codeAny_mono (codeAny_call_builtin (R := wants (fun r s₂ => r = .none ∧ ∃ h' tk' acc, s₂ = sh b h' tk' ∧ St h₀ I ((h.objs.size, SetP w acc) :: C) h' ∧ acc.Nodup ∧ (∀ k, k ∈ acc ↔ k ∈ ss)) E) PySem.F.called_set.init.plain PySem.F.entry_set_init (check_set_init_1 hT ?_)) fun r₂ s₂ hr₂ => ?_
      · obtain ⟨⟨ocls, odict, odata, oslots⟩, hol, hcl, nl, hdl⟩ := id hl
        simp only at hcl hdl
        subst hcl; subst hdl
        have hS : (h.push { cls := .type "set", dict := none, data := .set #[] 0 (.fresh 0 0 led) }).get? h.objs.size = some { cls := .type "set", dict := none, data := .set #[] 0 (.fresh 0 0 led) } := Heap.get?_push_size _ rfl
        have hol' := S1.fz _ _ hol
        have hTl : Shared.TypeIs (sh b (h.push { cls := .type "set", dict := none, data := .set #[] 0 (.fresh 0 0 led) }) tk) (.ref l) "list" := ⟨_, hol', rfl⟩
        have hsls := PySem.F.sub_list_set
        have hslf := PySem.F.sub_list_frozenset
        have hne : (Value.type "list" == Value.type "dict") = false := by decide
        unfold Builtin.«set.__init__» noKeywords Builtin.Frozenset.updateFrom
        generalize hPI : pyIter = PI
        wp_walk
        subst hPI
        refine itList (b := b) S1 hol ⟨rfl, nl, rfl⟩ fun it h3 tk3 N HI S3 => ?_
        refine wpAny_bind (wpAny_runValue ?_)
        have hlen : ss.length = vs.toArray.size := by rw [List.size_toArray]; exact (StrsAre.len_eq hs).symm
        refine set_loop (ss := ss) HI (by show A.handled = none; exact R.hd) (fun i v hv => ?_) Le.rfl hlen (by omega) (fun h4 tk4 acc S4 nd hm => ?_) vs.toArray.size 0 h3 tk3 [] (by omega) (by omega) List.nodup_nil (fun k => by simp) (by simp) S3.swap
        · obtain ⟨y, t, rfl, hy⟩ := hs.item i v (by simpa using hv)
          exact ⟨y, t, rfl, hy⟩
        · show wpAny _ _ _ _ _ _
          refine wpAny_pure ?_
          show wpAny _ _ (ret Value.none) _ _ _
          exact wpAny_pure ⟨rfl, h4, tk4, acc, rfl, S4, nd, hm⟩
      · cases r₂ with
        | error e => exact hr₂
        | ok fl₂ =>
          cases fl₂ with
          | ret r =>
            obtain ⟨rfl, h', tk', acc, rfl, S2, nd, hm⟩ := hr₂
            repeat (any_goals (first | assumption | wp_step))
            exact q _ _ _ acc S2 nd hm
          | _ => exact hr₂.elim
    | _ => exact hr.elim
theorem lenSet {acc : List Str} (S : St h₀ I ((a, SetP w acc) :: C) h) (q : ∀ t tk', Q (.int acc.length t) (sh b h tk')) : wpAny (model P0 w) A (call (.builtin "len") [.ref a]) Q E (sh b h tk) := by
  obtain ⟨o, ho, hp⟩ := S.head
  obtain ⟨o', es, ep, t, ho', hex, hd, _, _, hsz, hf, hn⟩ := hp _ _ ho
  refine call_len_set (s := sh b h tk) ho' hex hd hf (by unfold scanBound at hsz; omega) ?_
  have := q (tk + 1) (tk + 1 + 1)
  rw [← hn] at this
  exact this
theorem lenL {l : Addr} {vs : List Value} (S : St h₀ I C h) (hl : ListF I l vs) (hz : vs.length ≤ 1000) (q : ∀ t tk', Q (.int vs.length t) (sh b h tk')) : wpAny (model P0 w) A (call (.builtin "len") [.ref l]) Q E (sh b h tk) := by
  refine call_len_list (s := sh b h tk) (hl.lst S) (by rw [List.size_toArray]; omega) ?_
  rw [List.size_toArray]
  exact q _ _
theorem sub_len : ∀ {ss acc : List Str}, acc.Nodup → (∀ k ∈ acc, k ∈ ss) → acc.length ≤ ss.length
  | [], acc, nd, h => by cases acc with | nil => simp | cons a r => exact absurd (h a (.head _)) (by simp)
  | s :: r, acc, nd, h => by
    have ih := sub_len (ss := r) (nd.erase s) fun k hk => by
      have := (nd.mem_erase_iff).mp hk
      rcases List.mem_cons.mp (h k this.2) with e | e
      · exact absurd e this.1
      · exact e
    rw [List.length_erase] at ih
    rw [List.length_cons]
    split at ih <;> omega
theorem sub_lt : ∀ {ss acc : List Str}, acc.Nodup → (∀ k ∈ acc, k ∈ ss) → ¬ ss.Nodup → acc.length < ss.length
  | [], acc, nd, h, n => absurd List.nodup_nil n
  | s :: r, acc, nd, h, n => by
    rw [List.length_cons]
    by_cases hs : s ∈ r
    · have := sub_len (ss := r) nd fun k hk => by
        rcases List.mem_cons.mp (h k hk) with e | e
        · exact e ▸ hs
        · exact e
      omega
    · have n2 : ¬ r.Nodup := fun z => n (List.nodup_cons.mpr ⟨hs, z⟩)
      have ih := sub_lt (ss := r) (nd.erase s) (fun k hk => by
        have := (nd.mem_erase_iff).mp hk
        rcases List.mem_cons.mp (h k this.2) with e | e
        · exact absurd e this.1
        · exact e) n2
      rw [List.length_erase] at ih
      split at ih <;> omega
theorem nodup_len {acc ss : List Str} (nd : acc.Nodup) (hm : ∀ k, k ∈ acc ↔ k ∈ ss) : (ss.Nodup → acc.length = ss.length) ∧ (¬ ss.Nodup → acc.length < ss.length) :=
  ⟨fun n2 => ((List.perm_ext_iff_of_nodup nd n2).mpr hm).length_eq, fun n => sub_lt nd (fun k hk => (hm k).mp hk) n⟩
end
end
section -- L1
open PySem PySem.W PyProof.Rows PySem.Calls PySem.Spec PySem.SeqAt
set_option maxRecDepth 100000
section
variable {M : Model} {w : World} {A : Around} {E : Value → Shared → Prop} {b : Bs} {h : Heap} {tk : Nat} {h₀ : Heap} {I : Fz} {C : List Cell} {env : Env} {x : Str} {pos : Pos} {v : Value} {c : Addr} {Q : Value → Shared → Prop} {d1 d2 d3 : Cell}
theorem f_law (P : Params) : FnAt (KK P) 423 "law" "law" (stAt 31) (Value.none) 422 := ⟨⟨Value.str (Str.ofString "law_nn0124_01") 677, by kernel_rfl⟩, by kernel_rfl⟩
theorem cell_is (S : St h₀ I C h) {v : Option Value} (hm : (c, CellO v) ∈ C) : h.IsCell c v := let ⟨o, a, e⟩ := S.cs _ hm; ⟨o, a, e⟩
/-- a cell that may still turn -/
theorem nmK (S : St h₀ I C h) (hm : (c, CellO (some v)) ∈ C) (hl : env.cells.lookup x = some c) (hq : Q v (sh b h tk)) (hk : env.scope.kind = .function) (hx : env.kindOf x = some .cell)
    (hd : (x == ("__debug__" : Str)) = false) : wpAny M A (eval (.Name x pos) env) Q E (sh b h tk) :=
  wpAny_Name (wpAny_loadName_cell hk hx hl (cell_is S hm) hq) hd
theorem stC {Q : Unit → Shared → Prop} {v0 : Option Value} (S : St h₀ I ((c, CellO v0) :: C) h) (hl : env.cells.lookup x = some c) (hq : ∀ h', St h₀ I ((c, CellO (some v)) :: C) h' → Q () (sh b h' tk)) (hk : env.scope.kind = .function) (hx : env.kindOf x = some .cell) :
    wpAny M A (storeName env x v) Q E (sh b h tk) :=
  wpAny_storeName_cell hk hx hl (cell_is S (.head _)) fun h' hc hs => hq h' (S.same hs.extBut (let ⟨o, a, e⟩ := hc; ⟨o, a, e⟩))
theorem St.frzC (S : St h₀ I ((c, CellO (some v)) :: C) h) : ∃ I', Le I I' ∧ CellF I' c v ∧ St h₀ I' C h :=
  let ⟨o, e, S'⟩ := S.freeze; ⟨_, Add.le, ⟨o, Add.new, e⟩, S'⟩
end
set_option maxHeartbeats 1000000
set_option linter.unusedVariables false
section
variable {w : World} {A : Around} {E : Value → Shared → Prop} {b : Bs} {h : Heap} {tk : Nat} {h₀ : Heap} {I : Fz} {C : List Cell} {Q : Value → Shared → Prop} {n : Nat} {d tr : D} {v : Value} {x : Addr} {tb : Tab} {a : Addr}
theorem numbersK {l : List (Str × Value)} {t : Addr} {kvs : List (Int × Value)} {pos : Pos} {env : Env} {pl : Sem Bool} (W : Wd (KK w.params) h₀) (R : Rm A 5) (S : St h₀ I C h) (hi : InstF I x 356 l) (h1 : l.lookup sTb = some (.ref t)) (hm : ∀ n, n ≠ sTb → n ≠ sTr → l.lookup n = none)
    (hd : DicF (iK w) I t kvs) (hz : kvs.length < 64) (hpw : (kvs.map (·.1)).Pairwise (· < ·)) (q : ∀ a vs I' h' tk', Le I I' → ListF I' a vs → IntsAre vs (kvs.map (·.1)) → St h₀ I' C h' → Q (.ref a) (sh b h' tk')) :
    wpAny (model P0 w) A (getMethod (.ref x) (Str.ofString "numbers") pl) (fun fx s₂ => wpAny (model P0 w) A (callWith pos fx.1 fx.2 (backTo pos (starEach [] env)) []) Q E s₂) E (sh b h tk) := by
  refine getM (K := KK w.params) (f := 341) W S (hi.h S) (by kernel_rfl) (by kernel_rfl) (by kernel_rfl) (by kernel_rfl) (hm _ (by decide +kernel) (by decide +kernel)) ?_
  refine callWith_K0 (S.Kin W) (by kernel_rfl) ?_
  refine callP W R S (f_Shelf_numbers w.params) (binds := [(Str.ofString "self", .ref x)]) (fun pm => BindsTo.of_eq (by kernel_rfl)) (by kernel_rfl) (by kernel_rfl) rfl rfl rfl fun A' L h₁ tk1 R' S1 => ?_
  refine wpAny_execs_cons ?_
  walk_at "g"
  refine getTb W S1 hi h1 (by rfl) fun tk2 => ?_
  walk_at "g"
  refine sortInt (R'.less (by omega)) S1 hd hz hpw fun a vs I' h' tk' k l ii S2 => ?_
  walk_at "g"
  exact q a vs I' h' _ k l ii S2.tail
theorem All2.set {α β : Type} {R : α → β → Prop} {s s' : β} {os2 : List β} : ∀ {l : List α} {os1 : List β}, All2 R l (os1 ++ s :: os2) → (∀ a, l[os1.length]? = some a → R a s') → All2 R l (os1 ++ s' :: os2)
  | [], [], h, _ => nomatch h
  | [], _ :: _, h, _ => nomatch h
  | a :: l, [], .cons x y, h => .cons (h a rfl) y
  | a :: l, o :: os1, .cons x y, h => .cons x (All2.set (l := l) (os1 := os1) y fun a ha => h a (by simpa using ha))
theorem All2.atL {α β : Type} {R : α → β → Prop} : ∀ {l : List α} {m : List β} {i : Nat} {a : α}, All2 R l m → l[i]? = some a → ∃ b, m[i]? = some b ∧ R a b
  | _, _, 0, a, .cons x _, e => by simp at e; subst e; exact ⟨_, rfl, x⟩
  | _, _, i + 1, a, .cons _ y, e => y.atL (by simpa using e)
theorem upd_row {l : List (Str × D)} {k : Str} {d : D} {p : Str × D} (h : p ∈ upd l k d) : p = (k, d) ∨ p ∈ l := by
  unfold upd at h
  split at h
  · obtain ⟨q, hq, rfl⟩ := List.mem_map.mp h
    by_cases e : q.1 = k
    · rw [if_pos e, e]; exact .inl rfl
    · rw [if_neg e]; exact .inr hq
  · rcases List.mem_append.mp h with h | h
    · exact .inr h
    · exact .inl (List.mem_singleton.mp h)
theorem rows_of {kvs : List (Int × Value)} {os : List Sl} (r : All2 (EntOk w I) kvs os) (h : ∀ s ∈ os, s = .done) : ∃ tb : Tab, All2 (RowF w I) tb kvs ∧ ∀ p ∈ tb, smallI p.2.1 := by
  induction r with
  | nil => exact ⟨[], .nil, by simp⟩
  | @cons p s kvs os x _ ih =>
    obtain ⟨t, g, tg, u, e1, e2, e3, e4⟩ := x
    rw [h s (.head _)] at e4
    obtain ⟨d, hd⟩ := e4
    obtain ⟨tb, f1, f2⟩ := ih fun s hs => h s (.tail _ hs)
    refine ⟨(p.1, g, d) :: tb, .cons ⟨rfl, t, tg, u, e1, e2, hd⟩ f1, fun p hp => ?_⟩
    rcases List.mem_cons.mp hp with rfl | hp
    · exact e3
    · exact f2 p hp
theorem valueAt_ofK {K : Type} [DecidableEq K] {kvs : List (K × Value)} {i : Nat} {k : K} {u : Value} (nd : (kvs.map (·.1)).Nodup) (h : kvs[i]? = some (k, u)) : valueAt kvs k = some u := by
  induction kvs generalizing i with
  | nil => simp at h
  | cons a r ih =>
    rw [List.map_cons, List.nodup_cons] at nd
    cases i with
    | zero => simp at h; subst h; simp [valueAt]
    | succ i =>
      have h' : r[i]? = some (k, u) := by simpa using h
      have : ¬ a.1 = k := fun e => nd.1 (e ▸ List.mem_map.mpr ⟨(k, u), List.mem_of_getElem? h', rfl⟩)
      have := ih nd.2 h'
      unfold valueAt at this ⊢
      rw [List.find?_cons, show decide (a.1 = k) = false by simpa using ‹¬ a.1 = k›]; exact this
noncomputable def Post (w : World) (h₀ : Heap) (b : Bs) (Q : Value → Shared → Prop) : Prop := ∀ I' C' h' tk', St h₀ I' C' h' → Q (.bool true) (sh b h' tk')
end
end
section -- PL1
open PySem PySem.W PyProof.Rows PySem.Calls PySem.Spec PySem.SeqAt
set_option maxRecDepth 100000
set_option linter.unusedVariables false
-- the plain law: well-formed data
noncomputable def DOk : Nat → D → Prop
  | 0, _ => False
  | _ + 1, .null => True
  | _ + 1, .int i => smallI i
  | _ + 1, .name s => s ∈ okNames
  | _ + 1, .ref i g => smallI i ∧ smallI g
  | n + 1, .arr l => ∀ d ∈ l, DOk n d
  | n + 1, .dict l => (∀ p ∈ l, okRow p ∧ DOk n p.2) ∧ (l.map (·.1)).Nodup
  | n + 1, .stream d o => DOk n d ∧ (o = #[0] ∨ o = #[1])
theorem isD_ok {w : World} {I : Fz} : ∀ (n : Nat) {d : D} {v : Value}, IsD w I n d v → DOk n d := by
  intro n
  induction n with
  | zero => intro d v x; exact x.elim
  | succ n ih =>
    intro d v x
    cases d with
    | null => trivial
    | int i => obtain ⟨_, _, h⟩ := x; exact h
    | name s => obtain ⟨_, _, _, _, h⟩ := x; exact h
    | ref i g => obtain ⟨_, _, _, _, _, h⟩ := x; exact h
    | arr l => obtain ⟨_, _, _, _, _, _, hal, _⟩ := x; exact fun d hd => let ⟨_, hu⟩ := hal.mem hd; ih hu
    | dict l => obtain ⟨_, _, _, hdf, hal, _, hok⟩ := x; exact ⟨fun p hp => ⟨hok p hp, let ⟨_, _, hu⟩ := hal.mem hp; ih hu⟩, rows_keys hal ▸ dic_nodup hdf⟩
    | stream d o => obtain ⟨_, _, _, _, _, hd, _, ho⟩ := x; exact ⟨ih hd, ho⟩
theorem tw_word' (n : Nat) {d : D} {s : Str} (x : DOk n d) (h : s ∈ words) : TW (2 * n) (.str s) := by
  cases n with
  | zero => exact x.elim
  | succ n => exact h
theorem dok_tw : ∀ (n : Nat) {d : D}, DOk n d → TW (2 * n) (told d) := by
  intro n
  induction n with
  | zero => intro d x; exact x.elim
  | succ n ih =>
    intro d x
    obtain ⟨w1, w2, w3, w4, w5, w6, w7⟩ := tags_w
    cases d with
    | null => rw [told]; intro t ht; simp at ht; subst ht; exact w1
    | int i =>
      rw [told]; intro t ht; simp at ht
      rcases ht with rfl | rfl
      · exact w2
      · exact x
    | name s =>
      rw [told]; intro t ht; simp at ht
      rcases ht with rfl | rfl
      · exact w3
      · exact names_w _ x
    | ref i g =>
      rw [told]; intro t ht; simp at ht
      rcases ht with rfl | rfl | rfl
      · exact w4
      · exact x.1
      · exact x.2
    | arr l =>
      rw [told]; intro t ht
      rcases List.mem_cons.mp ht with rfl | ht
      · exact w5
      · obtain ⟨d, hd, rfl⟩ := toldL_mem ht
        exact tw_up (ih (x d hd))
    | dict l =>
      rw [told]; intro t ht
      rcases List.mem_cons.mp ht with rfl | ht
      · exact w6
      · obtain ⟨k, u, hk, hu, rfl⟩ := rowsT_mem ht
        obtain ⟨d, hd, rfl⟩ := toldR_mem hu
        have hq := (x.1 _ hd).2
        intro t ht; simp at ht
        rcases ht with rfl | rfl
        · exact tw_word' n hq (keys_w _ hk)
        · exact ih hq
    | stream d o =>
      rw [told]; intro t ht; simp at ht
      rcases ht with rfl | rfl | rfl
      · exact w7
      · exact tw_up (ih x.1)
      · exact x.2
theorem renR_mem {nm : Names} {p : Str × D} {l : List (Str × D)} (h : p ∈ renR nm l) : ∃ q ∈ l, p = (q.1, ren nm q.2) := by
  rw [renR_eq] at h
  obtain ⟨q, hq, rfl⟩ := List.mem_map.mp (List.mem_filter.mp h).1
  exact ⟨q, hq, rfl⟩
theorem renL_mem {nm : Names} {d : D} : ∀ {l : List D}, d ∈ renL nm l → ∃ e ∈ l, d = ren nm e
  | a :: r, h => by
    rw [renL] at h
    rcases List.mem_cons.mp h with rfl | h
    · exact ⟨a, .head _, rfl⟩
    · obtain ⟨e, a1, b⟩ := renL_mem h; exact ⟨e, .tail _ a1, b⟩
theorem renR_nodup {nm : Names} {l : List (Str × D)} (h : (l.map (·.1)).Nodup) : ((renR nm l).map (·.1)).Nodup := by
  rw [renR_eq]
  have : ((l.map fun p => (p.1, ren nm p.2)).map (·.1)).Nodup := by rw [List.map_map]; exact h
  exact this.sublist (List.filter_sublist.map _)
theorem ren_ok {nm : Names} (hn : nmOk nm) : ∀ (n : Nat) {d : D}, DOk n d → DOk n (ren nm d) := by
  intro n
  induction n with
  | zero => intro d x; exact x.elim
  | succ n ih =>
    intro d x
    cases d with
    | null => rw [ren]; exact x
    | int i => rw [ren]; exact x
    | name s => rw [ren]; exact x
    | ref i g =>
      rw [ren]
      cases e : nm.lookup (i, g) with
      | none => trivial
      | some p => exact hn _ (look_in e)
    | arr l => rw [ren]; intro d hd; obtain ⟨e, he, rfl⟩ := renL_mem hd; exact ih (x e he)
    | dict l =>
      rw [ren]
      refine ⟨fun p hp => ?_, renR_nodup x.2⟩
      obtain ⟨q, hq, rfl⟩ := renR_mem hp
      exact ⟨okRow_ren (x.1 q hq).1, ih (x.1 q hq).2⟩
    | stream d o => rw [ren]; exact ⟨ih x.1, x.2⟩
theorem renR_look {nm : Names} {k : Str} : ∀ {l : List (Str × D)}, (l.map (·.1)).Nodup → (renR nm l).lookup k = (l.lookup k).bind fun d => if (ren nm d).isNull then none else some (ren nm d)
  | [], _ => rfl
  | (j, d) :: r, h => by
    rw [List.map_cons, List.nodup_cons] at h
    have ih := renR_look (nm := nm) (k := k) h.2
    rw [renR, List.lookup_cons]
    by_cases e : k = j
    · subst e
      have hn : r.lookup k = none := by
        cases q : r.lookup k with
        | none => rfl
        | some x => exact absurd (look_mem q) h.1
      rw [beq_self_eq_true]
      split
      · rename_i hd; rw [ih, hn]; simp [hd]
      · rename_i hd; rw [List.lookup_cons, beq_self_eq_true]; simp [hd]
    · have e' : (k == j) = false := by simpa using e
      rw [e']
      split
      · exact ih
      · rw [List.lookup_cons, e']; exact ih
-- pages
theorem page_single {n : Nat} {d : D} (x : DOk n d) : isPage d = single d := by
  cases n with
  | zero => exact x.elim
  | succ n =>
  cases d with
  | dict l =>
    show (match l.lookup (sx "Type") with | some (.name _) => true | _ => false) = decide ((match l.lookup (sx "Type") with | some (.name s) => s | _ => sx "") ∈ [sx "Page", sx "Pages", sx "Catalog"])
    cases e : l.lookup (sx "Type") with
    | none => exact (by decide +kernel : false = decide (sx "" ∈ [sx "Page", sx "Pages", sx "Catalog"]))
    | some d =>
      have h := (x.1 _ (look_in e)).1.2 rfl
      have h : d = .name (Str.ofString "Page") := h
      subst h
      exact (by decide +kernel : true = decide (sx "Page" ∈ [sx "Page", sx "Pages", sx "Catalog"]))
  | _ => exact (by decide +kernel : false = decide (sx "" ∈ [sx "Page", sx "Pages", sx "Catalog"]))
theorem page_ren {nm : Names} {n : Nat} {d : D} (x : DOk n d) : isPage (ren nm d) = isPage d := by
  cases n with
  | zero => exact x.elim
  | succ n =>
  cases d with
  | dict l =>
    rw [ren]
    show (match (renR nm l).lookup (sx "Type") with | some (.name _) => true | _ => false) = (match l.lookup (sx "Type") with | some (.name _) => true | _ => false)
    rw [renR_look x.2]
    cases e : l.lookup (sx "Type") with
    | none => rfl
    | some d =>
      have h : d = .name (Str.ofString "Page") := (x.1 _ (look_in e)).1.2 rfl
      subst h
      rfl
  | ref i g => rw [ren]; cases nm.lookup (i, g) <;> rfl
  | arr l => rw [ren]; rfl
  | stream d o => rw [ren]; rfl
  | null => rw [ren]
  | int i => rw [ren]
  | name s => rw [ren]
end
section -- PL2
open PySem PySem.W PyProof.Rows PySem.Calls PySem.Spec PySem.SeqAt
set_option maxRecDepth 100000
set_option linter.unusedVariables false
-- the plain law: repr tells told data apart
noncomputable def cd (s : Str) : List Nat := s.cps.toList
theorem cd_app (x y : Str) : cd (x ++ y) = cd x ++ cd y := by
  show (x.cps ++ y.cps).toList = x.cps.toList ++ y.cps.toList
  simp
theorem cd_inj {x y : Str} (h : cd x = cd y) : x = y := by
  obtain ⟨a⟩ := x; obtain ⟨c⟩ := y
  have : a = c := Array.toList_inj.mp h
  rw [this]
noncomputable def tl : List T → List Nat
  | [] => [41]
  | t :: r => 44 :: 32 :: (cd (shownT t) ++ tl r)
theorem cd_join : ∀ (t : T) (l : List T), cd (Str.join ", " (shownTs (t :: l))) ++ [41] = cd (shownT t) ++ tl l
  | t, [] => rfl
  | t, u :: r => by
    have e : Str.join ", " (shownTs (t :: u :: r)) = shownT t ++ ", " ++ Str.join ", " (shownTs (u :: r)) := rfl
    have e2 : cd (", " : Str) = [44, 32] := by decide +kernel
    rw [e, cd_app, cd_app, e2, List.append_assoc, cd_join u r, tl]
    simp
noncomputable def tl1 : List T → List Nat
  | [] => [44, 41]
  | t :: r => tl (t :: r)
theorem cd_tup (t : T) (l : List T) : cd (shownT (.tup (t :: l))) = 40 :: (cd (shownT t) ++ tl1 l) := by
  rw [shownT]
  unfold tupleText
  have e1 : cd ("(" : Str) = [40] := by decide +kernel
  rw [cd_app, cd_app, e1]
  cases l with
  | nil =>
    have e2 : cd ((if (shownTs [t]).length == 1 then ",)" else ")" : String) : Str) = [44, 41] := by rw [show (shownTs [t]).length = 1 from rfl]; decide +kernel
    rw [e2]
    rfl
  | cons u r =>
    have e2 : cd ((if (shownTs (t :: u :: r)).length == 1 then ",)" else ")" : String) : Str) = [41] := by
      rw [show (shownTs (t :: u :: r)).length = (shownTs r).length + 2 from rfl, if_neg (by simp)]; decide +kernel
    rw [e2, List.append_assoc, cd_join, tl1]
    rfl
theorem cd_tup0 : cd (shownT (.tup [])) = [40, 41] := by rw [shownT]; decide +kernel
theorem word_cd : ∀ s ∈ words, cd (reprText s) = 39 :: (cd s ++ [39]) ∧ 39 ∉ cd s := by decide +kernel
theorem num_cd : ∀ i ∈ List.range 50, cd (toString (i : Int) : Str) ≠ [] ∧ (cd (toString (i : Int) : Str)).all (fun c => 48 ≤ c && c ≤ 57) = true := by decide +kernel
theorem num_inj : ∀ i ∈ List.range 50, ∀ j ∈ List.range 50, cd (toString (i : Int) : Str) = cd (toString (j : Int) : Str) → i = j := by decide +kernel
noncomputable def Stop (r : List Nat) : Prop := ∀ c, r.head? = some c → c = 44 ∨ c = 41
theorem num_pre : ∀ {a c r r' : List Nat}, a.all (fun c => 48 ≤ c && c ≤ 57) = true → c.all (fun c => 48 ≤ c && c ≤ 57) = true → Stop r → Stop r' → a ++ r = c ++ r' → a = c ∧ r = r'
  | [], [], r, r', _, _, _, _, e => ⟨rfl, e⟩
  | [], y :: c, r, r', _, h, s, _, e => by
    have e : r = y :: (c ++ r') := e
    have := s y (by rw [e]; rfl)
    simp at h; omega
  | x :: a, [], r, r', h, _, _, s, e => by
    have e : x :: (a ++ r) = r' := e
    have := s x (by rw [← e]; rfl)
    simp at h; omega
  | x :: a, y :: c, r, r', h1, h2, s1, s2, e => by
    simp only [List.cons_append, List.cons.injEq] at e
    have i := num_pre (a := a) (c := c) (by simp at h1 ⊢; exact h1.2) (by simp at h2 ⊢; exact h2.2) s1 s2 e.2
    exact ⟨by rw [e.1, i.1], i.2⟩
theorem quote_pre : ∀ {a c r r' : List Nat}, 39 ∉ a → 39 ∉ c → a ++ 39 :: r = c ++ 39 :: r' → a = c ∧ r = r'
  | [], [], r, r', _, _, e => by simp at e; exact ⟨rfl, e⟩
  | [], y :: c, r, r', _, h, e => by simp at e; exact absurd (by rw [e.1]; exact .head _) h
  | x :: a, [], r, r', h, _, e => by simp at e; exact absurd (by rw [← e.1]; exact .head _) h
  | x :: a, y :: c, r, r', h1, h2, e => by
    simp only [List.cons_append, List.cons.injEq] at e
    have i := quote_pre (a := a) (c := c) (fun h => h1 (.tail _ h)) (fun h => h2 (.tail _ h)) e.2
    exact ⟨by rw [e.1, i.1], i.2⟩
theorem small_ex {i : Int} (h : smallI i) : ∃ k : Nat, k ∈ List.range 50 ∧ i = k := by
  obtain ⟨k, rfl⟩ := Int.eq_ofNat_of_zero_le h.1
  exact ⟨k, List.mem_range.mpr (by have := h.2; omega), rfl⟩
theorem byt_cd {o : Array UInt8} (h : o = #[0] ∨ o = #[1]) : cd (shownT (.byt o)) = [98, 39, 92, 120, 48, if o = #[0] then 48 else 49, 39] := by
  rw [shownT]
  rcases h with rfl | rfl <;> decide +kernel
-- the first sign of a text tells its kind
theorem cd_head : ∀ (n : Nat) {t : T}, TW n t → ∃ c r, cd (shownT t) = c :: r ∧ match t with | .str _ => c = 39 | .int _ => 48 ≤ c ∧ c ≤ 57 | .byt _ => c = 98 | .tup _ => c = 40 | .lst _ => False
  | 0, t, h => h.elim
  | n + 1, .str s, h => ⟨39, _, by rw [shownT]; exact (word_cd s h).1, rfl⟩
  | n + 1, .int i, h => by
    obtain ⟨k, hk, rfl⟩ := small_ex h
    have := num_cd k hk
    rw [shownT]
    cases e : cd (toString (k : Int) : Str) with
    | nil => exact absurd e this.1
    | cons c r => rw [e] at this; exact ⟨c, r, rfl, by have := this.2; simp at this; exact this.1⟩
  | n + 1, .byt o, h => ⟨98, _, byt_cd h, rfl⟩
  | n + 1, .tup [], h => ⟨40, _, cd_tup0, rfl⟩
  | n + 1, .tup (t :: l), h => ⟨40, _, cd_tup t l, rfl⟩
  | n + 1, .lst l, h => h.elim
theorem tl_stop (l : List T) (r : List Nat) : Stop (tl l ++ r) := fun c h => by cases l <;> (simp [tl] at h; omega)
theorem tl1_stop (l : List T) (r : List Nat) : Stop (tl1 l ++ r) := fun c h => by cases l <;> (simp [tl1, tl] at h; omega)
theorem tl_pre {n m : Nat} (ih : ∀ {t u : T} {r r' : List Nat}, TW n t → TW m u → Stop r → Stop r' → cd (shownT t) ++ r = cd (shownT u) ++ r' → t = u ∧ r = r') :
    ∀ {l k : List T} {r r' : List Nat}, (∀ t ∈ l, TW n t) → (∀ t ∈ k, TW m t) → tl l ++ r = tl k ++ r' → l = k ∧ r = r'
  | [], [], r, r', _, _, e => by simp [tl] at e; exact ⟨rfl, e⟩
  | [], u :: k, r, r', _, _, e => by simp [tl] at e
  | t :: l, [], r, r', _, _, e => by simp [tl] at e
  | t :: l, u :: k, r, r', h1, h2, e => by
    simp only [tl, List.cons_append, List.cons.injEq, true_and, List.append_assoc] at e
    obtain ⟨rfl, e2⟩ := ih (h1 t (.head _)) (h2 u (.head _)) (tl_stop _ _) (tl_stop _ _) e
    obtain ⟨rfl, e3⟩ := tl_pre ih (fun t ht => h1 t (.tail _ ht)) (fun t ht => h2 t (.tail _ ht)) e2
    exact ⟨rfl, e3⟩
theorem cd_pre : ∀ (n m : Nat) {t u : T} {r r' : List Nat}, TW n t → TW m u → Stop r → Stop r' → cd (shownT t) ++ r = cd (shownT u) ++ r' → t = u ∧ r = r' := by
  intro n
  induction n with
  | zero => intro m t u r r' h; exact h.elim
  | succ n ih =>
    intro m t u r r' h1 h2 s1 s2 e
    cases m with
    | zero => exact h2.elim
    | succ m =>
    obtain ⟨c, x, ec, hc⟩ := cd_head _ h1
    obtain ⟨c', x', ec', hc'⟩ := cd_head _ h2
    have hcc : c = c' := by rw [ec, ec'] at e; simp at e; exact e.1
    subst hcc
    cases t with
    | str s =>
      cases u with
      | str s' =>
        rw [shownT, shownT, (word_cd s h1).1, (word_cd s' h2).1] at e
        simp only [List.cons_append, List.cons.injEq, true_and, List.append_assoc, List.singleton_append] at e
        obtain ⟨e1, e2⟩ := quote_pre (word_cd s h1).2 (word_cd s' h2).2 e
        exact ⟨by rw [cd_inj e1], e2⟩
      | int => simp only at hc hc'; omega
      | byt => simp only at hc hc'; omega
      | tup => simp only at hc hc'; omega
      | lst => exact h2.elim
    | int i =>
      cases u with
      | int j =>
        obtain ⟨a, ha, rfl⟩ := small_ex h1
        obtain ⟨a', ha', rfl⟩ := small_ex h2
        rw [shownT, shownT] at e
        obtain ⟨e1, e2⟩ := num_pre (num_cd a ha).2 (num_cd a' ha').2 s1 s2 e
        exact ⟨by rw [num_inj a ha a' ha' e1], e2⟩
      | str => simp only at hc hc'; omega
      | byt => simp only at hc hc'; omega
      | tup => simp only at hc hc'; omega
      | lst => exact h2.elim
    | byt o =>
      cases u with
      | byt o' =>
        rw [byt_cd h1, byt_cd h2] at e
        simp only [List.cons_append, List.cons.injEq, true_and, List.nil_append] at e
        refine ⟨?_, e.2⟩
        have e1 := e.1
        rcases h1 with rfl | rfl <;> rcases h2 with rfl | rfl <;> first | rfl | (exact absurd e1 (by decide +kernel))
      | str => simp only at hc hc'; omega
      | int => simp only at hc hc'; omega
      | tup => simp only at hc hc'; omega
      | lst => exact h2.elim
    | lst => exact h1.elim
    | tup l =>
      cases u with
      | tup k =>
        cases l with
        | nil =>
          cases k with
          | nil => rw [cd_tup0] at e; simp at e; exact ⟨rfl, e⟩
          | cons t' k =>
            exfalso
            rw [cd_tup0, cd_tup] at e
            obtain ⟨d, y, ed, hd⟩ := cd_head _ (h2 t' (.head _))
            rw [ed] at e; simp at e
            cases t' <;> simp only at hd <;> omega
        | cons t l =>
          cases k with
          | nil =>
            exfalso
            rw [cd_tup0, cd_tup] at e
            obtain ⟨d, y, ed, hd⟩ := cd_head _ (h1 t (.head _))
            rw [ed] at e; simp at e
            cases t <;> simp only at hd <;> omega
          | cons t' k =>
            rw [cd_tup, cd_tup] at e
            simp only [List.cons_append, List.cons.injEq, true_and, List.append_assoc] at e
            obtain ⟨rfl, e2⟩ := ih m (h1 t (.head _)) (h2 t' (.head _)) (tl1_stop _ _) (tl1_stop _ _) e
            cases l with
            | nil =>
              cases k with
              | nil => simp [tl1] at e2; exact ⟨rfl, e2⟩
              | cons a k => simp [tl1, tl] at e2
            | cons a l =>
              cases k with
              | nil => simp [tl1, tl] at e2
              | cons a' k =>
                obtain ⟨e3, e4⟩ := tl_pre (fun {t u r r'} => ih m) (fun t ht => h1 t (.tail _ ht)) (fun t ht => h2 t (.tail _ ht)) e2
                exact ⟨by rw [e3], e4⟩
      | str => simp only at hc hc'; omega
      | int => simp only at hc hc'; omega
      | byt => simp only at hc hc'; omega
      | lst => exact h2.elim
theorem rep_inj {n m : Nat} {d e : D} (h1 : DOk n d) (h2 : DOk m e) (h : rep d = rep e) : told d = told e :=
  (cd_pre _ _ (dok_tw n h1) (dok_tw m h2) (r := []) (r' := []) (fun _ h => by cases h) (fun _ h => by cases h) (by unfold rep at h; rw [h])).1
end
section -- PL3
open PySem PySem.W PyProof.Rows PySem.Calls PySem.Spec PySem.SeqAt
set_option maxRecDepth 100000
set_option linter.unusedVariables false
-- the plain law: what is told alike unfolds alike; renumbering keeps unfoldings
theorem fm_key {β : Type} {f g : Str → Option β} {h : β → Str} : ∀ {ks : List Str}, ks.Nodup → (∀ k ∈ ks, ∀ b, f k = some b → h b = k) → (∀ k ∈ ks, ∀ b, g k = some b → h b = k) → ks.filterMap f = ks.filterMap g → ∀ k ∈ ks, f k = g k
  | [], _, _, _, _, k, hk => by cases hk
  | a :: r, nd, hf, hg, e, k, hk => by
    rw [List.nodup_cons] at nd
    have miss : ∀ {f : Str → Option β}, (∀ k ∈ a :: r, ∀ b, f k = some b → h b = k) → ∀ b ∈ r.filterMap f, h b ≠ a := fun hf b hb q => by
      obtain ⟨j, hj, e⟩ := List.mem_filterMap.mp hb
      have := hf j (.tail _ hj) b e
      exact nd.1 (by rw [← q, this]; exact hj)
    rw [List.filterMap_cons, List.filterMap_cons] at e
    have main : f a = g a ∧ r.filterMap f = r.filterMap g := by
      cases ef : f a with
      | none =>
        cases eg : g a with
        | none => rw [ef, eg] at e; exact ⟨rfl, e⟩
        | some b =>
          rw [ef, eg] at e
          have e : r.filterMap f = b :: r.filterMap g := e
          exact absurd (hg a (.head _) b eg) (miss hf b (by rw [e]; exact .head _))
      | some b =>
        cases eg : g a with
        | none =>
          rw [ef, eg] at e
          have e : b :: r.filterMap f = r.filterMap g := e
          exact absurd (hf a (.head _) b ef) (miss hg b (by rw [← e]; exact .head _))
        | some b' =>
          rw [ef, eg] at e
          simp only [List.cons.injEq] at e
          exact ⟨by rw [e.1], e.2⟩
    rcases List.mem_cons.mp hk with rfl | hk
    · exact main.1
    · exact fm_key nd.2 (fun k hk => hf k (.tail _ hk)) (fun k hk => hg k (.tail _ hk)) main.2 k hk
noncomputable def keyT : T → Str | .tup (.str s :: _) => s | _ => sx ""
theorem rowsT_inj {l m : List (Str × T)} (e : rowsT l = rowsT m) : ∀ k ∈ okSorted, l.lookup k = m.lookup k := by
  intro k hk
  have := fm_key (h := keyT) okSorted_nd (fun k _ b hb => by obtain ⟨t, _, rfl⟩ := Option.map_eq_some_iff.mp hb; rfl) (fun k _ b hb => by obtain ⟨t, _, rfl⟩ := Option.map_eq_some_iff.mp hb; rfl) e k hk
  cases e1 : l.lookup k with
  | none => cases e2 : m.lookup k with | none => rfl | some t => rw [e1, e2] at this; cases this
  | some s => cases e2 : m.lookup k with | none => rw [e1, e2] at this; cases this | some t => rw [e1, e2] at this; simp at this; rw [this]
theorem rowsU_congr {l m : List (Str × T)} (h : ∀ k ∈ okSorted, (match l.lookup k with | none => none | some t => if isNullT t then none else some t) = (match m.lookup k with | none => none | some t => if isNullT t then none else some t)) : rowsU l = rowsU m := by
  unfold rowsU
  refine fm_congr fun k hk => ?_
  by_cases hs : k ∈ [sx "Size", sx "Prev"]
  · rw [if_pos hs, if_pos hs]
  · rw [if_neg hs, if_neg hs]
    have := h k hk
    cases e1 : l.lookup k with
    | none =>
      cases e2 : m.lookup k with
      | none => rfl
      | some t =>
        rw [e1, e2] at this
        by_cases ht : isNullT t = true
        · simp [ht]
        · simp [ht] at this
    | some s =>
      cases e2 : m.lookup k with
      | none =>
        rw [e1, e2] at this
        by_cases ht : isNullT s = true
        · simp [ht]
        · simp [ht] at this
      | some t =>
        rw [e1, e2] at this
        by_cases ht : isNullT s = true
        · by_cases hu : isNullT t = true
          · simp [ht, hu]
          · simp [ht, hu] at this
        · by_cases hu : isNullT t = true
          · simp [ht, hu] at this
          · simp [ht, hu] at this; simp [ht, hu, this]
theorem unfR_at (f : Int → Int → T) {k : Str} : ∀ {l : List (Str × D)}, (unfR f l).lookup k = (l.lookup k).map (unfG f)
  | [] => rfl
  | (j, d) :: r => by
    rw [unfR, List.lookup_cons, List.lookup_cons]
    split
    · rfl
    · exact unfR_at f
theorem null_unf (f : Int → Int → T) : ∀ {d : D}, d.isNull = true → unfG f d = nullT
  | .null, _ => by rw [unfG]
theorem isNull_nullT : isNullT nullT = true := by decide +kernel
noncomputable def tagOf : T → Str | .tup (.str s :: _) => s | _ => sx ""
theorem tag_told : ∀ d : D, tagOf (told d) = kindS d
  | .null => by rw [told]; rfl
  | .int _ => by rw [told]; rfl
  | .name _ => by rw [told]; rfl
  | .ref _ _ => by rw [told]; rfl
  | .arr _ => by rw [told]; rfl
  | .dict _ => by rw [told]; rfl
  | .stream _ _ => by rw [told]; rfl
theorem kinds_ne : [sx "null", sx "int", sx "name", sx "ref", sx "array", sx "dict", sx "stream"].Nodup := by decide +kernel
/-- what is told alike unfolds alike -/
theorem told_unf (f : Int → Int → T) : ∀ (n m : Nat) {a c : D}, DOk n a → DOk m c → told a = told c → unfG f a = unfG f c := by
  intro n
  induction n with
  | zero => intro m a c h; exact h.elim
  | succ n ih =>
    intro m a c h1 h2 e
    cases m with
    | zero => exact h2.elim
    | succ m =>
    have hk : kindS a = kindS c := by rw [← tag_told a, ← tag_told c, e]
    have L : ∀ {l k : List D}, (∀ d ∈ l, DOk n d) → (∀ d ∈ k, DOk m d) → toldL l = toldL k → unfL f l = unfL f k := by
      intro l
      induction l with
      | nil => intro k _ _ e; cases k with | nil => rfl | cons _ _ => rw [toldL, toldL] at e; cases e
      | cons d l ihl =>
        intro k q1 q2 e
        cases k with
        | nil => rw [toldL, toldL] at e; cases e
        | cons d' k =>
          rw [toldL, toldL, List.cons.injEq] at e
          rw [unfL, unfL, ih m (q1 d (.head _)) (q2 d' (.head _)) e.1, ihl (fun d hd => q1 d (.tail _ hd)) (fun d hd => q2 d (.tail _ hd)) e.2]
    have hnd := kinds_ne
    cases a with
    | null => cases c <;> first | rfl | exact absurd hk (by dsimp only [kindS]; decide +kernel)
    | int i => cases c <;> first | (rw [told, told] at e; simp at e; rw [e]) | exact absurd hk (by dsimp only [kindS]; decide +kernel)
    | name s => cases c <;> first | (rw [told, told] at e; simp at e; rw [e]) | exact absurd hk (by dsimp only [kindS]; decide +kernel)
    | ref i g => cases c <;> first | (rw [told, told] at e; simp at e; rw [e.1, e.2]) | exact absurd hk (by dsimp only [kindS]; decide +kernel)
    | arr l =>
      cases c with
      | arr k => rw [told, told] at e; simp at e; rw [unfG, unfG, L h1 h2 e]
      | _ => exact absurd hk (by dsimp only [kindS]; decide +kernel)
    | stream d o =>
      cases c with
      | stream d' o' => rw [told, told] at e; simp at e; rw [unfG, unfG, ih m h1.1 h2.1 e.1, e.2]
      | _ => exact absurd hk (by dsimp only [kindS]; decide +kernel)
    | dict l =>
      cases c with
      | dict k =>
        rw [told, told] at e; simp at e
        rw [unfG, unfG]
        have hr := rowsT_inj e
        rw [rowsU_congr fun key hkey => ?_]
        have := hr key hkey
        rw [toldR_look h1.2, toldR_look h2.2] at this
        rw [unfR_at, unfR_at]
        cases e1 : l.lookup key with
        | none =>
          cases e2 : k.lookup key with
          | none => rfl
          | some d' =>
            rw [e1, e2] at this
            by_cases hz : d'.isNull = true
            · simp [null_unf f hz, isNull_nullT]
            · simp [hz] at this
        | some d =>
          cases e2 : k.lookup key with
          | none =>
            rw [e1, e2] at this
            by_cases hz : d.isNull = true
            · simp [null_unf f hz, isNull_nullT]
            · simp [hz] at this
          | some d' =>
            rw [e1, e2] at this
            by_cases hz : d.isNull = true
            · by_cases hy : d'.isNull = true
              · simp [null_unf f hz, null_unf f hy, isNull_nullT]
              · simp [hz, hy] at this
            · by_cases hy : d'.isNull = true
              · simp [hz, hy] at this
              · simp [hz, hy] at this
                have q1 := (h1.1 _ (look_in e1)).2
                have q2 := (h2.1 _ (look_in e2)).2
                simp only [Option.map_some, ih m q1 q2 this]
      | _ => exact absurd hk (by dsimp only [kindS]; decide +kernel)
/-- renumbering keeps unfoldings -/
theorem ren_unf {nm : Names} {f f' : Int → Int → T} (hs : ∀ i g p, nm.lookup (i, g) = some p → f' p.1 p.2 = f i g) (hn : ∀ i g, nm.lookup (i, g) = none → f i g = nullT) : ∀ (n : Nat) {d : D}, DOk n d → unfG f' (ren nm d) = unfG f d := by
  intro n
  induction n with
  | zero => intro d h; exact h.elim
  | succ n ih =>
    intro d h
    cases d with
    | null => rw [ren, unfG, unfG]
    | int i => rw [ren, unfG, unfG]
    | name s => rw [ren, unfG, unfG]
    | ref i g =>
      rw [ren, unfG]
      cases e : nm.lookup (i, g) with
      | none => rw [hn i g e]; show unfG f' .null = _; rw [unfG]
      | some p => show unfG f' (.ref p.1 p.2) = _; rw [unfG, hs i g p e]
    | arr l =>
      rw [ren, unfG, unfG]
      have : ∀ {l : List D}, (∀ d ∈ l, DOk n d) → unfL f' (renL nm l) = unfL f l := by
        intro l
        induction l with
        | nil => intro _; rfl
        | cons a r ihl => intro q; rw [renL, unfL, unfL, ih (q a (.head _)), ihl fun d hd => q d (.tail _ hd)]
      rw [this h]
    | stream d o => rw [ren, unfG, unfG, ih h.1]
    | dict l =>
      rw [ren, unfG, unfG]
      rw [rowsU_congr fun key hkey => ?_]
      rw [unfR_at, unfR_at, renR_look h.2]
      cases e1 : l.lookup key with
      | none => rfl
      | some d =>
        have q1 := ih (h.1 _ (look_in e1)).2
        by_cases hz : (ren nm d).isNull = true
        · have : unfG f d = nullT := by rw [← q1]; exact null_unf f' hz
          simp [hz, this, isNull_nullT]
        · simp [hz, q1]
end
section -- L2
open PySem PySem.W PyProof.Rows PySem.Calls PySem.Spec PySem.SeqAt
set_option maxRecDepth 100000
set_option maxHeartbeats 1000000
set_option linter.unusedVariables false
noncomputable abbrev lawCl (L : Addr) : List (Str × Addr) := [(Str.ofString "k", L + 3), (Str.ofString "made", L + 2), (Str.ofString "shelf", L + 1)]
section
variable {w : World} {A : Around} {E : Value → Shared → Prop} {b : Bs} {h : Heap} {tk : Nat} {h₀ : Heap} {I : Fz} {C : List Cell} {Q : Value → Shared → Prop} {n : Nat} {d tr : D} {v : Value} {x y : Addr} {tb : Tab} {a L p : Addr}
/-- what stays known: both shelves, their cells, the first telling -/
structure Ctx (w : World) (I : Fz) (L x y : Addr) (tb : Tab) (tr : D) (kept : Value) : Prop where
  cs : CellF I (L + 1) (.ref x)
  cm : CellF I (L + 2) (.ref y)
  hs : ShelfF w I x tb tr
  hy : ShelfF w I y (laps (tb.length + 1) tb tr).1 (laps (tb.length + 1) tb tr).2
  hk : IsTv I 15 (toldSh tb tr) kept
theorem Ctx.le {J : Fz} {kept : Value} (c : Ctx w I L x y tb tr kept) (k : Le I J) : Ctx w J L x y tb tr kept := ⟨c.cs.le k, c.cm.le k, c.hs.le k, c.hy.le k, c.hk.le k⟩
theorem strs_snoc {s : Str} {t : Tok} : ∀ {vs : List Value} {ss : List Str}, StrsAre vs ss → StrsAre (vs ++ [.str s t]) (ss ++ [s])
  | _, _, .nil => .cons _ _ .nil
  | _, _, .cons _ _ r => .cons _ _ (strs_snoc r)
noncomputable def reps (tb : Tab) : List Str := (tb.filter fun p => !isPage p.2.2).map fun p => rep p.2.2
theorem reps_len (tb : Tab) : (reps tb).length ≤ tb.length := by unfold reps; rw [List.length_map]; exact List.length_filter_le _ _
theorem reps_snoc {tb : Tab} {i : Nat} {r : Int × Int × D} (h : tb[i]? = some r) : reps (tb.take (i + 1)) = reps (tb.take i) ++ (if (!isPage r.2.2) = true then [rep r.2.2] else []) := by
  unfold reps
  rw [take_snoc h, List.filter_append, List.map_append]
  congr 1
  rw [List.filter_cons]
  split <;> rfl
theorem num_at {tb : Tab} {vs : List Value} {i : Nat} {v : Value} (hv : IntsAre vs (tb.map (·.1))) (h : vs[i]? = some v) : ∃ k g d tm, v = .int k tm ∧ tb[i]? = some (k, g, d) := by
  obtain ⟨m, tm, rfl, hm2⟩ := ints_of hv h
  rw [List.getElem?_map] at hm2
  cases e : tb[i]? with
  | none => rw [e] at hm2; cases hm2
  | some p => rw [e] at hm2; obtain ⟨k, g, d⟩ := p; exact ⟨k, g, d, tm, by simp at hm2; rw [hm2], rfl⟩
theorem law_rest (W : Wd (KK w.params) h₀) (R : Rm A 90) (S : St h₀ I ((L, Loc [(Str.ofString "pen", Value.ref p), (Str.ofString "script", Value.ref a)]) :: (L + 3, CellO none) :: (L + 2, CellO none) :: C) h) (cs : CellF I (L + 1) (.ref x)) (hs : ShelfF w I x tb tr)
    (q : ∀ I' y kept acc ys h' tk', Ctx w I' L x y tb tr kept → ListF I' acc ys → StrsAre ys (reps (laps (tb.length + 1) tb tr).1) → St h₀ I' ((L, Loc [(Str.ofString "rows", Value.ref acc), (Str.ofString "kept", kept)]) :: (L + 3, CellO none) :: C) h' →
      wpAny (model P0 w) A (execs ((bodOf (stAt 31)).drop 6) (envP "law" (stAt 31) L 423 422 (lawCl L))) (fun fl s' => Q (retOf fl) s') (fun _ _ => False) (sh b h' tk')) :
    wpAny (model P0 w) A (execs ((bodOf (stAt 31)).drop 3) (envP "law" (stAt 31) L 423 422 (lawCl L))) (fun fl s' => Q (retOf fl) s') (fun _ _ => False) (sh b h tk) := by
  refine wpAny_execs_cons ?_
  walk_at "g"
  have hs0 := hs
  obtain ⟨l, t, kvs, vt, hi, at1, at2, ht, htr, hm⟩ := hs0.ex
  refine getM (K := KK w.params) (f := 353) W S (hi.h S) (by kernel_rfl) (by kernel_rfl) (by kernel_rfl) (by kernel_rfl) (hm _ (by decide +kernel) (by decide +kernel)) ?_
  refine callWith_K0 (S.Kin W) (by kernel_rfl) ?_
  refine tolds_spec W (R.less (by omega)) S hs fun kept I2 h2 tk2 k2 hkept S2 => ?_
  clear S
  replace cs := cs.le k2
  replace hs := hs.le k2
  walk_at "s"; intro h3 tk3 S3; clear S2
  walk_at "g"
  walk_at "k"
  refine joined_spec W (R.less (by omega)) S3 hs fun y I3 h4 tk4 k3 hy S4 => ?_
  clear S3
  replace cs := cs.le k3
  replace hs := hs.le k3
  replace hkept := hkept.le k3
  have S5 := S4.perm (List.perm_middle (l₁ := [_, _]))
  clear S4
  refine stC S5 rfl (fun h5 S6 => ?_) rfl rfl
  clear S5
  obtain ⟨I4, k4, cm, S7⟩ := S6.frzC
  clear S6
  replace cs := cs.le k4
  replace hs := hs.le k4
  replace hkept := hkept.le k4
  replace hy := hy.le k4
  generalize htb' : (laps (tb.length + 1) tb tr).1 = tb' at hy
  generalize htr' : (laps (tb.length + 1) tb tr).2 = tr' at hy
  walk_at "g"
  obtain ⟨l2, t2, kvs2, vt2, hi2, bt1, bt2, ht2, htr2, hm2⟩ := hy.ex
  refine compA (h₀ := h₀) (cl := [(Str.ofString "made", L + 2)]) R.hd (by rfl) (by rfl) (by with_unfolding_all rfl) (by kernel_rfl) (by kernel_rfl) rfl (by kernel_rfl) (by kernel_rfl) fun HP hHP => ?_
  walk_at "g"
  refine getNumbers W (R.less (by omega)) S7 hy fun an vs I5 h6 tk6 k5 hl hv S8 => ?_
  clear S7
  obtain ⟨ol, hol, hlo⟩ := hl
  refine itList S8 hol hlo fun it h7 tk7 N HI S9 => ?_
  clear S8
  have hvl : vs.length = tb'.length := by rw [hv.length, List.length_map]
  have hln := hy.ok.ln
  refine hHP ⟨it, I5, I5, _, _, N, h7, tk7, _, b, fun i I' ys C' => StrsAre ys (reps (tb'.take i)) ∧ C' = (L, Loc [(Str.ofString "kept", kept), (Str.ofString "pen", Value.ref p), (Str.ofString "script", Value.ref a)]) :: (L + 3, CellO none) :: C, rfl, rfl, HI, by rw [List.size_toArray]; omega, Le.rfl, S9, ⟨.nil, rfl⟩, ?_, ?_⟩
  · rintro i I' ys C' Lc acc h tk v hi' ⟨hys, rfl⟩ k6 hv' S10 Nx hNx
    obtain ⟨kn, g, d, tm, rfl, hp⟩ := num_at hv (by simpa using hv')
    obtain ⟨t', u, v', e1, e2, e3⟩ := tab_look ht2.al (look_at hy.ok.pw hp)
    have kk := k5.trans k6
    replace cm := cm.le kk
    refine wpAny_tests_one ?_
    walk_at "g"
    refine getTb W S10 (hi2.le kk) bt1 (by rfl) fun tk8 => ?_
    walk_at "g"
    refine subD (ht2.dic.le kk) S10 intKey_is e1 fun tk9 => ?_
    walk_at "g"
    refine itemT (e2.le kk) S10 (by decide) (by decide) (v := v') rfl ?_
    walk_at "g"
    walk_at "k"
    refine page_spec W (R.less (by omega)) S10 (e3.le kk) fun h8 tk10 S11 => ?_
    clear S10
    walk_at "g"
    refine ifB (fun hn => ?_) (fun hn => ?_)
    · walk_at "g"
      refine getTb W S11 (hi2.le kk) bt1 (by rfl) fun tk11 => ?_
      walk_at "g"
      refine subD (ht2.dic.le kk) S11 intKey_is e1 fun tk12 => ?_
      walk_at "g"
      refine itemT (e2.le kk) S11 (by decide) (by decide) (v := v') rfl ?_
      walk_at "g"
      walk_at "k"
      refine told_spec 6 W (R.less (by omega)) S11 (e3.le kk) fun v2 I6 h9 tk13 k7 hv2 S12 => ?_
      walk_at "g"
      refine rep_spec (R.less (by omega)) S12 ((e3.le kk).le k7) hv2 fun tr2 h10 tk14 S13 => ?_
      refine hNx ⟨I6, _, h10, _, rfl, k7, ⟨?_, rfl⟩, S13⟩
      rw [reps_snoc hp, if_pos hn]
      exact strs_snoc hys
    · refine hNx ⟨I', _, h8, _, rfl, Le.rfl, ⟨?_, rfl⟩, S11⟩
      rw [reps_snoc hp, if_neg (by rw [hn]; simp), List.append_nil]
      exact hys
  · rintro I' ys C' ⟨hys, rfl⟩ k6
    refine ⟨_, _, rfl, fun acc h8 tk8 S10 => ?_⟩
    rw [List.take_of_length_le (by rw [List.size_toArray, hvl]; exact Nat.le_refl _)] at hys
    have kk := k5.trans k6
    replace cm := cm.le kk
    replace cs := cs.le kk
    replace hs := hs.le kk
    replace hy := hy.le kk
    replace hkept := hkept.le kk
    obtain ⟨I6, k7, hlr, S11⟩ := S10.swap.frzL
    clear S10
    replace cm := cm.le k7
    replace cs := cs.le k7
    replace hs := hs.le k7
    replace hy := hy.le k7
    replace hkept := hkept.le k7
    subst htb' htr'
    exact q I6 y kept acc ys h8 tk8 ⟨cs, cm, hs, hy, hkept⟩ hlr hys (S11.mono fun o ho => ho.sub ⟨rfl, rfl, trivial⟩)
end
end
section -- L3
open PySem PySem.W PyProof.Rows PySem.Calls PySem.Spec PySem.SeqAt
set_option maxRecDepth 100000
set_option maxHeartbeats 1000000
set_option linter.unusedVariables false
structure Facts (tb : Tab) (tr : D) (tb' : Tab) (tr' : D) : Prop where
  p1 : (reps tb').Nodup
  p2 : ∀ r ∈ tb', ∃ d, tb.lookup r.1 = some (r.2.1, d) ∧ unf tb' 3 r.2.2 = unf tb 3 d
  p4 : ∀ r ∈ tb, tb'.lookup r.1 = none → isPage r.2.2 = false ∧ ∃ s ∈ tb', s.1 < r.1 ∧ ∃ g d, tb.lookup s.1 = some (g, d) ∧ unf tb 3 d = unf tb 3 r.2.2
  p5 : unf tb' 3 tr' = unf tb 3 tr
  p6 : (reps tb).Nodup → tb'.map (·.1) = tb.map (·.1)
section
variable {w : World} {A : Around} {E : Value → Shared → Prop} {b : Bs} {h : Heap} {tk : Nat} {h₀ : Heap} {I : Fz} {C : List Cell} {Q : Value → Shared → Prop} {n : Nat} {d tr : D} {v kept : Value} {x y : Addr} {tb : Tab} {a L p acc : Addr} {c0 : Option Value}
theorem neLstE {m : Nat} {l k : List T} (R : Rm A 5) (S : St h₀ I C h) (hn : n ≤ 300) (a : IsTv I (n + 1) (.lst l) (.ref x)) (c : IsTv I (m + 1) (.lst k) (.ref y)) (e : l = k) (q : Q (.bool false) (sh b h tk)) : wpAny (model P0 w) A (compareOp .NotEq (.ref x) (.ref y)) Q E (sh b h tk) :=
  neLst R S hn a c (by subst e; simpa using q)
theorem neTupE {m : Nat} {l k : List T} (R : Rm A 5) (S : St h₀ I C h) (hn : n ≤ 300) (a : IsTv I (n + 1) (.tup l) (.ref x)) (c : IsTv I (m + 1) (.tup k) (.ref y)) (e : l = k) (q : Q (.bool false) (sh b h tk)) : wpAny (model P0 w) A (compareOp .NotEq (.ref x) (.ref y)) Q E (sh b h tk) :=
  neTup R S hn a c (by subst e; simpa using q)
noncomputable abbrev nTb (tb : Tab) (tr : D) : Tab := (laps (tb.length + 1) tb tr).1
noncomputable abbrev nTr (tb : Tab) (tr : D) : D := (laps (tb.length + 1) tb tr).2
noncomputable def Goes (w : World) (A : Around) (L : Addr) (k : Nat) (b : Bs) (Q : Value → Shared → Prop) (h : Heap) (tk : Nat) : Prop :=
  wpAny (model P0 w) A (execs ((bodOf (stAt 31)).drop k) (envP "law" (stAt 31) L 423 422 (lawCl L))) (fun fl s' => Q (retOf fl) s') (fun _ _ => False) (sh b h tk)
theorem law_r2 {ys : List Value} (W : Wd (KK w.params) h₀) (R : Rm A 90) (X : Ctx w I L x y tb tr kept) (F : Facts tb tr (nTb tb tr) (nTr tb tr)) (hl : ListF I acc ys) (hr : StrsAre ys (reps (nTb tb tr)))
    (S : St h₀ I ((L, Loc [(Str.ofString "rows", Value.ref acc), (Str.ofString "kept", kept)]) :: (L + 3, CellO c0) :: C) h)
    (q : ∀ I' h' tk', Ctx w I' L x y tb tr kept → St h₀ I' ((L, Loc [(Str.ofString "kept", kept)]) :: (L + 3, CellO c0) :: C) h' → Goes w A L 7 b Q h' tk') : Goes w A L 6 b Q h tk := by
  unfold Goes
  have cs := X.cs
  have cm := X.cm
  have hln := X.hy.ok.ln
  have hyl : ys.length ≤ 6 := by rw [StrsAre.len_eq hr]; exact Nat.le_trans (reps_len _) hln
  refine wpAny_execs_cons ?_
  walk_at "g"
  refine lenL S hl (by omega) fun t1 tk1 => ?_
  walk_at "g"
  refine setOfL (R.less (by omega)) S hl hr (by rw [← StrsAre.len_eq hr]; unfold scanBound; omega) fun sa h1 tk2 ac S1 nd hm => ?_
  clear S
  walk_at "g"
  refine lenSet S1 fun t2 tk3 => ?_
  have S2 := S1.tail
  clear S1
  have e1 : ac.length = (reps (nTb tb tr)).length := (nodup_len nd hm).1 F.p1
  refine neI ?_
  rw [show ((ys.length : Int) != (ac.length : Int)) = false by rw [e1, StrsAre.len_eq hr]; simp]
  walk_at "g"
  obtain ⟨l1, t1', kvs1, vt1, hi1, at1, at2, ht1, htr1, hm1⟩ := X.hs.ex
  obtain ⟨l2, t2', kvs2, vt2, hi2, bt1, bt2, ht2, htr2, hm2⟩ := X.hy.ex
  refine compF (h₀ := h₀) (cl := [(Str.ofString "shelf", L + 1)]) R.hd (by kernel_rfl) (by kernel_rfl) rfl (by kernel_rfl) (by kernel_rfl) fun HP hHP => ?_
  walk_at "g"
  refine getTb W S2 hi2 bt1 (by rfl) fun tk4 => ?_
  refine itDict S2 ht2.dic fun it h3 tk5 N HI S3 => ?_
  clear S2
  refine hHP ⟨it, I, I, _, _, N, h3, tk5, _, b, fun i I' ys C' => ys = [] ∧ C' = (L, Loc [(Str.ofString "rows", Value.ref acc), (Str.ofString "kept", kept)]) :: (L + 3, CellO c0) :: C, rfl, rfl, HI, by rw [← ht2.al.len]; omega, Le.rfl, S3, ⟨rfl, rfl⟩, ?_, ?_⟩
  · rintro i I' ys C' Lc ac2 h tk v hi' ⟨rfl, rfl⟩ k3 ⟨kn, vn, hkv, hkn⟩ S4 Nx hNx
    obtain ⟨tkn, rfl⟩ := intKey_inv hkn
    obtain ⟨⟨pk, g, d⟩, hp, hpe, _⟩ := ht2.al.at hkv
    obtain rfl : pk = kn := hpe
    obtain ⟨d0, hd0, _⟩ := F.p2 _ (List.mem_of_getElem? hp)
    replace cs := cs.le k3
    refine wpAny_tests_one ?_
    walk_at "g"
    refine getTb W S4 (hi1.le k3) at1 (by rfl) fun tk6 => ?_
    refine dNotIn ((ht1.dic.le k3).dh S4) intKey_is fun tk7 => ?_
    rw [show (valueAt kvs1 pk).isSome = true by rw [tab_in ht1.al, hd0]; rfl]
    walk_at "g"
    exact hNx ⟨I', _, _, _, rfl, Le.rfl, ⟨rfl, rfl⟩, S4⟩
  · rintro I' ys C' ac2 h tk ⟨rfl, rfl⟩ k3 S4
    obtain ⟨I3, k4, hl3, S5⟩ := S4.frzL
    clear S4
    walk_at "g"
    refine lstN S5 (by simp) fun xl I4 h5 k5 il S6 => ?_
    clear S5
    have hz1 : IsTv I4 2 (.lst []) (.ref ac2) := lstTv (hl3.le k5) .nil
    have hz2 : IsTv I4 2 (.lst []) (.ref xl) := lstTv il .nil
    refine neLstE (n := 1) (m := 1) (R.less (by omega) : Rm A 5) S6 (by omega) hz1 hz2 rfl ?_
    walk_at "h"
    exact q I4 _ _ (X.le (k3.trans (k4.trans k5))) (S6.mono fun o ho => ho.sub ⟨rfl, trivial⟩)
theorem law_r3 (W : Wd (KK w.params) h₀) (R : Rm A 90) (X : Ctx w I L x y tb tr kept) (F : Facts tb tr (nTb tb tr) (nTr tb tr))
    (S : St h₀ I ((L, Loc [(Str.ofString "kept", kept)]) :: (L + 3, CellO c0) :: C) h)
    (q : ∀ I' h' tk', Ctx w I' L x y tb tr kept → St h₀ I' ((L, Loc [(Str.ofString "kept", kept)]) :: (L + 3, CellO c0) :: C) h' → Goes w A L 8 b Q h' tk') : Goes w A L 7 b Q h tk := by
  unfold Goes
  have cs := X.cs
  have cm := X.cm
  have hln := X.hy.ok.ln
  refine wpAny_execs_cons ?_
  walk_at "g"
  obtain ⟨l1, t1', kvs1, vt1, hi1, at1, at2, ht1, htr1, hm1⟩ := X.hs.ex
  obtain ⟨l2, t2', kvs2, vt2, hi2, bt1, bt2, ht2, htr2, hm2⟩ := X.hy.ex
  refine compF (h₀ := h₀) (cl := [(Str.ofString "shelf", L + 1), (Str.ofString "made", L + 2)]) R.hd (by kernel_rfl) (by kernel_rfl) rfl (by kernel_rfl) (by kernel_rfl) fun HP hHP => ?_
  walk_at "g"
  refine getTb W S hi2 bt1 (by rfl) fun tk4 => ?_
  refine itDict S ht2.dic fun it h3 tk5 N HI S3 => ?_
  clear S
  refine hHP ⟨it, I, I, _, _, N, h3, tk5, _, b, fun i I' ys C' => ys = [] ∧ C' = (L, Loc [(Str.ofString "kept", kept)]) :: (L + 3, CellO c0) :: C, rfl, rfl, HI, by rw [← ht2.al.len]; omega, Le.rfl, S3, ⟨rfl, rfl⟩, ?_, ?_⟩
  · rintro i I' ys C' Lc ac2 h tk v hi' ⟨rfl, rfl⟩ k3 ⟨kn, vn, hkv, hkn⟩ S4 Nx hNx
    obtain ⟨tkn, rfl⟩ := intKey_inv hkn
    obtain ⟨⟨pk, g, d⟩, hp, hpe, _⟩ := ht2.al.at hkv
    obtain rfl : pk = kn := hpe
    obtain ⟨d0, hd0, _⟩ := F.p2 _ (List.mem_of_getElem? hp)
    obtain ⟨ta, ua, va, a1, a2, a3⟩ := tab_look ht2.al (look_at X.hy.ok.pw hp)
    obtain ⟨tc, uc, vc, c1, c2, c3⟩ := tab_look ht1.al hd0
    replace cs := cs.le k3
    replace cm := cm.le k3
    refine wpAny_tests_one ?_
    walk_at "g"
    refine getTb W S4 (hi2.le k3) bt1 (by rfl) fun tk6 => ?_
    walk_at "g"
    refine subD (ht2.dic.le k3) S4 intKey_is a1 fun tk7 => ?_
    walk_at "g"
    refine itemT (a2.le k3) S4 (by decide) (by decide) (v := .int g ua) rfl ?_
    walk_at "g"
    refine getTb W S4 (hi1.le k3) at1 (by rfl) fun tk8 => ?_
    walk_at "g"
    refine subD (ht1.dic.le k3) S4 intKey_is c1 fun tk9 => ?_
    walk_at "g"
    refine itemT (c2.le k3) S4 (by decide) (by decide) (v := .int g uc) rfl ?_
    refine neI ?_
    rw [show ((g : Int) != g) = false by simp]
    walk_at "g"
    exact hNx ⟨I', _, _, _, rfl, Le.rfl, ⟨rfl, rfl⟩, S4⟩
  · rintro I' ys C' ac2 h tk ⟨rfl, rfl⟩ k3 S4
    obtain ⟨I3, k4, hl3, S5⟩ := S4.frzL
    clear S4
    walk_at "g"
    refine lstN S5 (by simp) fun xl I4 h5 k5 il S6 => ?_
    clear S5
    have hz1 : IsTv I4 2 (.lst []) (.ref ac2) := lstTv (hl3.le k5) .nil
    have hz2 : IsTv I4 2 (.lst []) (.ref xl) := lstTv il .nil
    walk_at "g"
    refine neLstE (n := 1) (m := 1) (R.less (by omega) : Rm A 5) S6 (by omega) hz1 hz2 rfl ?_
    walk_at "h"
    exact q I4 _ _ (X.le (k3.trans (k4.trans k5))) S6
end
end
section -- PL4
open PySem PySem.W PyProof.Rows PySem.Calls PySem.Spec PySem.SeqAt
set_option maxRecDepth 100000
set_option linter.unusedVariables false
theorem lk_mem {α β : Type} [BEq α] [LawfulBEq α] {k : α} {v : β} : ∀ {l : List (α × β)}, l.lookup k = some v → (k, v) ∈ l
  | [], h => by simp at h
  | (a, b) :: r, h => by
    rw [List.lookup_cons] at h
    split at h
    · rename_i e; cases h; rw [beq_iff_eq.mp e]; exact .head _
    · exact .tail _ (lk_mem h)
theorem lk_none {α β : Type} [BEq α] [LawfulBEq α] {k : α} : ∀ {l : List (α × β)}, l.lookup k = none → ∀ v, (k, v) ∉ l
  | [], _, v, m => by cases m
  | (a, b) :: r, h, v, m => by
    rw [List.lookup_cons] at h
    split at h
    · cases h
    · rename_i e
      rcases List.mem_cons.mp m with m | m
      · cases m; simp at e
      · exact lk_none h v m
theorem lk_no {α β : Type} [BEq α] [LawfulBEq α] {k : α} {l : List (α × β)} (h : ∀ v, (k, v) ∉ l) : l.lookup k = none := by
  cases e : l.lookup k with
  | none => rfl
  | some v => exact absurd (lk_mem e) (h v)
theorem tab_of {tb : Tab} (hp : (tb.map (·.1)).Pairwise (· < ·)) {i g : Int} {d : D} (m : (i, g, d) ∈ tb) : tb.lookup i = some (g, d) := by
  obtain ⟨j, hj⟩ := List.mem_iff_getElem?.mp m
  exact look_at hp hj
theorem tw_row : ∀ {tb : Tab} {fs : List (Str × Int × Int)}, (tb.map (·.1)).Pairwise (· < ·) → ∀ {x : (Int × Int) × (Int × Int)}, x ∈ twG fs tb → ∃ d, (x.1.1, x.1.2, d) ∈ tb ∧ single d = false ∧
    (fs.lookup (rep d) = some x.2 ∨ ∃ e, (x.2.1, x.2.2, e) ∈ tb ∧ single e = false ∧ rep e = rep d ∧ x.2.1 < x.1.1 ∧ (twG fs tb).lookup x.2 = none)
  | [], fs, _, x, m => by simp [twG] at m
  | (i, g, d0) :: r, fs, hp, x, m => by
    rw [List.map_cons, List.pairwise_cons] at hp
    have lt : ∀ {j h : Int} {e : D}, (j, h, e) ∈ r → i < j := fun m => hp.1 _ (List.mem_map_of_mem (f := (·.1)) m)
    by_cases hs : single d0 = true
    · have hE : twG fs ((i, g, d0) :: r) = twG fs r := by rw [twG, if_pos hs]
      rw [hE] at m ⊢
      obtain ⟨d, h1, h2, h3⟩ := tw_row hp.2 m
      refine ⟨d, .tail _ h1, h2, h3.imp id ?_⟩
      rintro ⟨e, e1, e2⟩
      exact ⟨e, .tail _ e1, e2⟩
    · cases hf : fs.lookup (rep d0) with
      | some p =>
        have hE : twG fs ((i, g, d0) :: r) = ((i, g), p) :: twG fs r := by rw [twG, if_neg hs, hf]
        rw [hE] at m ⊢
        rcases List.mem_cons.mp m with rfl | m
        · exact ⟨d0, .head _, by simpa using hs, .inl hf⟩
        · obtain ⟨d, h1, h2, h3⟩ := tw_row hp.2 m
          refine ⟨d, .tail _ h1, h2, h3.imp id ?_⟩
          rintro ⟨e, e1, e2, e3, e4, e5⟩
          refine ⟨e, .tail _ e1, e2, e3, e4, ?_⟩
          rw [List.lookup_cons, show (x.2 == (i, g)) = false from beq_eq_false_iff_ne.mpr fun q => by have := lt e1; rw [q] at this; simp at this]
          exact e5
      | none =>
        have hE : twG fs ((i, g, d0) :: r) = twG (fs ++ [(rep d0, i, g)]) r := by rw [twG, if_neg hs, hf]
        rw [hE] at m ⊢
        obtain ⟨d, h1, h2, h3⟩ := tw_row hp.2 m
        refine ⟨d, .tail _ h1, h2, ?_⟩
        rcases h3 with h3 | ⟨e, e1, e2⟩
        · rw [List.lookup_append] at h3
          cases hq : fs.lookup (rep d) with
          | some p => rw [hq] at h3; exact .inl h3
          | none =>
            rw [hq] at h3
            have h4 := lk_mem (show [(rep d0, i, g)].lookup (rep d) = some x.2 by simpa using h3)
            have h5 : (rep d, x.2) = (rep d0, (i, g)) := by simpa using h4
            have h6 : rep d = rep d0 := congrArg Prod.fst h5
            have h7 : x.2 = (i, g) := congrArg Prod.snd h5
            refine .inr ⟨d0, ?_, by simpa using hs, h6.symm, ?_, ?_⟩
            · rw [h7]; exact .head _
            · rw [h7]; exact lt h1
            · rw [h7]
              refine lk_no fun v hv => ?_
              obtain ⟨d', h8, _⟩ := tw_row hp.2 hv
              have := lt h8
              simp at this
        · exact .inr ⟨e, .tail _ e1, e2⟩
noncomputable def repsS (tb : Tab) : List Str := (tb.filter fun p => !single p.2.2).map fun p => rep p.2.2
theorem tw_nil : ∀ {tb : Tab} {fs : List (Str × Int × Int)}, twG fs tb = [] ↔ (repsS tb).Nodup ∧ ∀ s ∈ repsS tb, fs.lookup s = none
  | [], fs => by simp [twG, repsS]
  | (i, g, d) :: r, fs => by
    by_cases hs : single d = true
    · rw [twG, if_pos hs, tw_nil]
      rw [show repsS ((i, g, d) :: r) = repsS r by simp [repsS, hs]]
    · rw [show repsS ((i, g, d) :: r) = rep d :: repsS r by simp [repsS, hs]]
      cases hf : fs.lookup (rep d) with
      | some p =>
        rw [show twG fs ((i, g, d) :: r) = ((i, g), p) :: twG fs r by rw [twG, if_neg hs, hf]]
        refine ⟨fun h => (by cases h), fun h => ?_⟩
        have := h.2 (rep d) (.head _)
        rw [hf] at this
        cases this
      | none =>
        rw [show twG fs ((i, g, d) :: r) = twG (fs ++ [(rep d, i, g)]) r by rw [twG, if_neg hs, hf], tw_nil, List.nodup_cons]
        constructor
        · rintro ⟨h1, h2⟩
          have h3 : ∀ s ∈ repsS r, fs.lookup s = none ∧ s ≠ rep d := fun s hm => by
            have := h2 s hm
            rw [List.lookup_append] at this
            cases hq : fs.lookup s with
            | some p => rw [hq] at this; cases this
            | none =>
              rw [hq] at this
              refine ⟨rfl, fun e => ?_⟩
              subst e
              simp at this
          refine ⟨⟨fun hm => (h3 _ hm).2 rfl, h1⟩, fun s hm => ?_⟩
          rcases List.mem_cons.mp hm with rfl | hm
          · exact hf
          · exact (h3 s hm).1
        · rintro ⟨⟨h0, h1⟩, h2⟩
          refine ⟨h1, fun s hm => ?_⟩
          rw [List.lookup_append, h2 s (.tail _ hm)]
          have : s ≠ rep d := fun e => h0 (e ▸ hm)
          have : (s == rep d) = false := by simpa using this
          simp [List.lookup_cons, this]
theorem left_in {tb : Tab} {t : Names} {i g : Int} {d : D} (m : (i, g, d) ∈ tb) (h : t.lookup (i, g) = none) : (i, g, ren (namesOf tb t) d) ∈ leftOf tb t := by
  unfold leftOf
  refine List.mem_map.mpr ⟨(i, g, d), List.mem_filter.mpr ⟨m, ?_⟩, rfl⟩
  simp [h]
theorem left_from {tb : Tab} {t : Names} {i g : Int} {d : D} (m : (i, g, d) ∈ leftOf tb t) : ∃ e, (i, g, e) ∈ tb ∧ t.lookup (i, g) = none ∧ d = ren (namesOf tb t) e := by
  unfold leftOf at m
  obtain ⟨⟨j, k, e⟩, h1, h2⟩ := List.mem_map.mp m
  obtain ⟨h3, h4⟩ := List.mem_filter.mp h1
  cases h2
  exact ⟨e, h3, by simpa using h4, rfl⟩
section
variable {tb : Tab} {tr : D}
noncomputable abbrev t0 (tb : Tab) : Names := twG [] tb
noncomputable abbrev nm0 (tb : Tab) : Names := namesOf tb (t0 tb)
noncomputable abbrev tb1 (tb : Tab) : Tab := leftOf tb (t0 tb)
theorem nm_at {i g : Int} {p : Int × Int} (h : (nm0 tb).lookup (i, g) = some p) : ∃ d, (i, g, d) ∈ tb ∧ p = ((t0 tb).lookup (i, g)).getD (i, g) := by
  obtain ⟨⟨j, k, d⟩, h1, h2⟩ := List.mem_map.mp (lk_mem h)
  cases h2
  exact ⟨d, h1, rfl⟩
theorem nm_no {i g : Int} (h : (nm0 tb).lookup (i, g) = none) (d : D) : (i, g, d) ∉ tb := fun m =>
  lk_none h _ (List.mem_map.mpr ⟨(i, g, d), m, rfl⟩)
theorem twin_at (hp : (tb.map (·.1)).Pairwise (· < ·)) {i g : Int} {d : D} {p : Int × Int} (m : (i, g, d) ∈ tb) (h : (t0 tb).lookup (i, g) = some p) :
    single d = false ∧ ∃ e, (p.1, p.2, e) ∈ tb ∧ single e = false ∧ rep e = rep d ∧ p.1 < i ∧ (t0 tb).lookup (p.1, p.2) = none := by
  obtain ⟨d', h1, h2, h3⟩ := tw_row hp (lk_mem h)
  have e1 := tab_of hp h1
  rw [tab_of hp m] at e1
  cases e1
  rcases h3 with h3 | h3
  · cases h3
  · exact ⟨h2, h3⟩
theorem drf_none {n : Nat} {i g : Int} (h : ∀ d, tb.lookup i ≠ some (g, d)) : drf tb n i g = nullT := by
  cases n <;> rw [drf] <;> cases e : tb.lookup i with
  | none => rfl
  | some p =>
    show (if p.1 = g then _ else _) = _
    rw [if_neg fun q => h p.2 (by rw [e, ← q])]
theorem drf_at {n : Nat} {i g : Int} {d : D} (h : tb.lookup i = some (g, d)) : drf tb n i g = match n with | 0 => .tup [.str (sx "far")] | n + 1 => .tup [.str (sx "to"), unfG (drf tb n) d] := by
  cases n <;> rw [drf, h] <;> exact if_pos rfl
variable (ok : TabOk tb) (dk : ∀ r ∈ tb, DOk 6 r.2.2)
include ok dk
theorem lap_drf : ∀ n : Nat, (∀ i g p, (nm0 tb).lookup (i, g) = some p → drf (tb1 tb) n p.1 p.2 = drf tb n i g) ∧ (∀ i g, (nm0 tb).lookup (i, g) = none → drf tb n i g = nullT) := by
  have ok1 : TabOk (tb1 tb) := left_ok ok
  have hn : ∀ n i g, (nm0 tb).lookup (i, g) = none → drf tb n i g = nullT := fun n i g h => drf_none fun d e => nm_no h d (lk_mem e)
  intro n
  refine ⟨?_, hn n⟩
  induction n with
  | zero =>
    intro i g p h
    obtain ⟨d, m, rfl⟩ := nm_at h
    rw [drf_at (tab_of ok.pw m)]
    cases ht : (t0 tb).lookup (i, g) with
    | none => exact drf_at (tab_of ok1.pw (left_in m ht))
    | some p =>
      obtain ⟨_, e, h1, _, _, _, h2⟩ := twin_at ok.pw m ht
      exact drf_at (tab_of ok1.pw (left_in h1 h2))
  | succ n ih =>
    intro i g p h
    obtain ⟨d, m, rfl⟩ := nm_at h
    rw [drf_at (tab_of ok.pw m)]
    cases ht : (t0 tb).lookup (i, g) with
    | none =>
      refine (drf_at (tab_of ok1.pw (left_in m ht))).trans ?_
      show T.tup [_, _] = T.tup [_, _]
      rw [ren_unf ih (hn n) 6 (dk _ m)]
    | some p =>
      obtain ⟨_, e, h1, _, h3, _, h2⟩ := twin_at ok.pw m ht
      refine (drf_at (tab_of ok1.pw (left_in h1 h2))).trans ?_
      show T.tup [_, _] = T.tup [_, _]
      rw [ren_unf ih (hn n) 6 (dk _ h1), told_unf (drf tb n) 6 6 (dk _ h1) (dk _ m) (rep_inj (dk _ h1) (dk _ m) h3)]
theorem lap_unf (n : Nat) {d : D} (x : DOk 6 d) : unf (tb1 tb) n (ren (nm0 tb) d) = unf tb n d := by
  obtain ⟨h1, h2⟩ := lap_drf ok dk n
  exact ren_unf h1 h2 6 x
omit dk in
theorem lap_short (h : (t0 tb).isEmpty = false) : (tb1 tb).length < tb.length := by
  cases e : t0 tb with
  | nil => rw [e] at h; cases h
  | cons x r =>
    have hx : x ∈ t0 tb := by rw [e]; exact .head _
    obtain ⟨d, h1, _⟩ := tw_row ok.pw hx
    unfold tb1 leftOf
    rw [List.length_map]
    refine Nat.lt_of_le_of_ne (List.length_filter_le _ _) fun q => ?_
    have := List.length_filter_eq_length_iff.mp q _ h1
    have h5 : (t0 tb).lookup x.1 = none := Option.isNone_iff_eq_none.mp this
    exact lk_none h5 x.2 hx
theorem lap_dk : ∀ r ∈ tb1 tb, DOk 6 r.2.2 := by
  rintro ⟨i, g, d⟩ h
  obtain ⟨e, h1, _, rfl⟩ := left_from h
  exact ren_ok (names_ok ok) 6 (dk _ h1)
end
structure Fct (tb : Tab) (tr : D) (tb' : Tab) (tr' : D) : Prop where
  ok : TabOk tb'
  dk : ∀ r ∈ tb', DOk 6 r.2.2
  p2 : ∀ r ∈ tb', ∃ d, tb.lookup r.1 = some (r.2.1, d) ∧ ∀ n, unf tb' n r.2.2 = unf tb n d
  p4 : ∀ r ∈ tb, tb'.lookup r.1 = none → isPage r.2.2 = false ∧ ∃ s ∈ tb', s.1 < r.1 ∧ ∃ g d, tb.lookup s.1 = some (g, d) ∧ ∀ n, unf tb n d = unf tb n r.2.2
  p5 : ∀ n, unf tb' n tr' = unf tb n tr
theorem Fct.rfl' {tb : Tab} {tr : D} (ok : TabOk tb) (dk : ∀ r ∈ tb, DOk 6 r.2.2) : Fct tb tr tb tr :=
  ⟨ok, dk, fun ⟨i, g, d⟩ h => ⟨d, tab_of ok.pw h, fun _ => rfl⟩, fun ⟨i, g, d⟩ h e => (by rw [tab_of ok.pw h] at e; cases e), fun _ => rfl⟩
theorem Fct.lap {tb tb' : Tab} {tr tr' : D} (ok : TabOk tb) (dk : ∀ r ∈ tb, DOk 6 r.2.2) (tk : DOk 6 tr) (F : Fct (tb1 tb) (ren (nm0 tb) tr) tb' tr') : Fct tb tr tb' tr' := by
  have ok1 : TabOk (tb1 tb) := left_ok ok
  refine ⟨F.ok, F.dk, ?_, ?_, fun n => (F.p5 n).trans (lap_unf ok dk n tk)⟩
  · rintro ⟨i, g, d'⟩ h
    obtain ⟨d1, h1, h2⟩ := F.p2 _ h
    obtain ⟨d, h3, _, rfl⟩ := left_from (lk_mem h1)
    exact ⟨d, tab_of ok.pw h3, fun n => (h2 n).trans (lap_unf ok dk n (dk _ h3))⟩
  · rintro ⟨i, g, d⟩ m hl
    cases ht : (t0 tb).lookup (i, g) with
    | none =>
      obtain ⟨h1, s, h2, h3, g', d1, h4, h5⟩ := F.p4 _ (left_in m ht) hl
      refine ⟨(page_ren (dk _ m)).symm.trans h1, s, h2, h3, g', ?_⟩
      obtain ⟨d', h6, _, rfl⟩ := left_from (lk_mem h4)
      refine ⟨d', tab_of ok.pw h6, fun n => ?_⟩
      have := h5 n
      rwa [lap_unf ok dk n (dk _ h6), show unf (tb1 tb) n (ren (namesOf tb (t0 tb)) d) = _ from lap_unf ok dk n (dk _ m)] at this
    | some p =>
      obtain ⟨hs, e, h1, h2, h3, h4, h5⟩ := twin_at ok.pw m ht
      refine ⟨(page_single (dk _ m)).trans hs, ?_⟩
      have hu : ∀ n, unf tb n e = unf tb n d := fun n => told_unf (drf tb n) 6 6 (dk _ h1) (dk _ m) (rep_inj (dk _ h1) (dk _ m) h3)
      cases hp : tb'.lookup p.1 with
      | some z =>
        obtain ⟨g', d'⟩ := z
        have hm := lk_mem hp
        obtain ⟨d1, h6, _⟩ := F.p2 _ hm
        obtain ⟨d2, h7, _, _⟩ := left_from (lk_mem h6)
        have e2 := tab_of ok.pw h7
        rw [tab_of ok.pw h1] at e2
        cases e2
        exact ⟨_, hm, h4, _, e, tab_of ok.pw h1, hu⟩
      | none =>
        obtain ⟨_, s, h6, h7, g', d1, h8, h9⟩ := F.p4 _ (left_in h1 h5) hp
        obtain ⟨d', h10, _, rfl⟩ := left_from (lk_mem h8)
        refine ⟨s, h6, Int.lt_trans h7 h4, g', d', tab_of ok.pw h10, fun n => ?_⟩
        have := h9 n
        rw [lap_unf ok dk n (dk _ h10), show unf (tb1 tb) n (ren (namesOf tb (t0 tb)) e) = _ from lap_unf ok dk n (dk _ h1)] at this
        exact this.trans (hu n)
theorem laps_fct : ∀ (k : Nat) {tb : Tab} {tr : D}, TabOk tb → (∀ r ∈ tb, DOk 6 r.2.2) → DOk 6 tr → Fct tb tr (laps k tb tr).1 (laps k tb tr).2 ∧ (tb.length < k → twG [] (laps k tb tr).1 = [])
  | 0, tb, tr, ok, dk, tk => ⟨Fct.rfl' ok dk, fun h => absurd h (by omega)⟩
  | k + 1, tb, tr, ok, dk, tk => by
    rw [laps]
    by_cases h : (twG [] tb).isEmpty = true
    · rw [if_pos h]
      exact ⟨Fct.rfl' ok dk, fun _ => by simpa using h⟩
    · rw [if_neg h]
      obtain ⟨h1, h2⟩ := laps_fct k (tb := tb1 tb) (tr := ren (nm0 tb) tr) (left_ok ok) (lap_dk ok dk) (ren_ok (names_ok ok) 6 tk)
      refine ⟨Fct.lap ok dk tk h1, fun hk => h2 ?_⟩
      have := lap_short ok (by simpa using h)
      omega
theorem reps_eq {tb : Tab} (dk : ∀ r ∈ tb, DOk 6 r.2.2) : reps tb = repsS tb := by
  unfold reps repsS
  rw [List.filter_congr fun r hr => by rw [page_single (dk r hr)]]
theorem facts_of (tb : Tab) (tr : D) (ok : TabOk tb) (dk : ∀ r ∈ tb, DOk 6 r.2.2) (tk : DOk 6 tr) : Facts tb tr (nTb tb tr) (nTr tb tr) := by
  obtain ⟨F, h⟩ := laps_fct (tb.length + 1) ok dk tk
  refine ⟨?_, fun r hr => ?_, fun r hr e => ?_, F.p5 3, fun hn => ?_⟩
  · rw [reps_eq F.dk]
    exact (tw_nil.mp (h (by omega))).1
  · obtain ⟨d, h1, h2⟩ := F.p2 r hr
    exact ⟨d, h1, h2 3⟩
  · obtain ⟨h1, s, h2, h3, g, d, h4, h5⟩ := F.p4 r hr e
    exact ⟨h1, s, h2, h3, g, d, h4, h5 3⟩
  · have e : twG [] tb = [] := tw_nil.mpr ⟨by rw [← reps_eq dk]; exact hn, fun _ _ => rfl⟩
    show (laps (tb.length + 1) tb tr).1.map _ = _
    rw [laps, if_pos (by rw [e]; rfl)]
end
local macro_rules | `(tactic| walk_at "c") => `(tactic| ((with_reducible refine nmK (h₀ := ?h0) (I := ?i0) (C := ?c0) (c := ?c1) (v := ?vv) ?k1 ?k0 ?k2 ?_ ?k3 ?k4 ?k5); (case k1 => assumption); (case k2 => exact rfl); (case k0 => assumption); (case k3 | k4 | k5 => exact rfl)))
section -- L4
open PySem PySem.W PyProof.Rows PySem.Calls PySem.Spec PySem.SeqAt
set_option maxRecDepth 100000
set_option maxHeartbeats 1000000
set_option linter.unusedVariables false
section
variable {w : World} {A : Around} {E : Value → Shared → Prop} {b : Bs} {h : Heap} {tk : Nat} {h₀ : Heap} {I : Fz} {C : List Cell} {Q : Value → Shared → Prop} {n : Nat} {d tr : D} {v kept : Value} {x y : Addr} {tb : Tab} {a L p acc : Addr} {c0 : Option Value}
theorem mem3 {h₀ : Heap} {I : Fz} {h : Heap} {C : List Cell} {c1 c2 c3 : Cell} (S : St h₀ I (c1 :: c2 :: c3 :: C) h) : c3 ∈ c1 :: c2 :: c3 :: C := by simp
theorem law_r4 (W : Wd (KK w.params) h₀) (R : Rm A 90) (X : Ctx w I L x y tb tr kept) (F : Facts tb tr (nTb tb tr) (nTr tb tr))
    (S : St h₀ I ((L, Loc [(Str.ofString "kept", kept)]) :: (L + 3, CellO c0) :: C) h)
    (q : ∀ I' c1 h' tk', Ctx w I' L x y tb tr kept → St h₀ I' ((L, Loc [(Str.ofString "kept", kept)]) :: (L + 3, CellO c1) :: C) h' → Goes w A L 9 b Q h' tk') : Goes w A L 8 b Q h tk := by
  unfold Goes
  have cs := X.cs
  have cm := X.cm
  have hln := X.hy.ok.ln
  refine wpAny_execs_cons ?_
  walk_at "g"
  refine wpAny_For ?_
  walk_at "g"
  refine getNumbers W (R.less (by omega)) S X.hy fun an vs I5 h6 tk6 k5 hl hv S8 => ?_
  clear S
  replace cs := cs.le k5
  replace cm := cm.le k5
  obtain ⟨ol, hol, hlo⟩ := hl
  refine itList S8 hol hlo fun it h7 tk7 N HI S9 => ?_
  clear S8
  refine forF HI R.hd (fun i I' l' C' => ∃ c1, l' = [(Str.ofString "kept", kept)] ∧ C' = (L + 3, CellO c1) :: C) S9.swap Le.rfl ⟨c0, rfl, rfl⟩ ?_ ?_
  · rintro i I' l' C' h tk v hi' ⟨c1, rfl, rfl⟩ k6 hv' S10 Nx hNx
    obtain ⟨kn, g, d, tm, rfl, hp⟩ := num_at hv (show vs[i]? = some v by simpa using hv')
    have X' := X.le (k5.trans k6)
    replace cs := cs.le k6
    replace cm := cm.le k6
    obtain ⟨l1, t1', kvs1, vt1, hi1, at1, at2, ht1, htr1, hm1⟩ := X'.hs.ex
    obtain ⟨l2, t2', kvs2, vt2, hi2, bt1, bt2, ht2, htr2, hm2⟩ := X'.hy.ex
    obtain ⟨d0, hd0, hu0⟩ := F.p2 _ (List.mem_of_getElem? hp)
    obtain ⟨ta, ua, va, a1, a2, a3⟩ := tab_look ht2.al (look_at X.hy.ok.pw hp)
    obtain ⟨tc, uc, vc, c1', c2, c3⟩ := tab_look ht1.al hd0
    refine wpAny_assign_Name ?_
    refine stC (S10.perm (List.perm_middle (l₁ := [_, _]))) rfl (fun h8 S11 => ?_) rfl rfl
    have S12 := S11.perm (List.perm_middle (l₁ := [_, _])).symm
    have hkm := mem3 S12
    clear S10 S11
    refine wpAny_execs_cons ?_
    walk_at "g"
    refine getTb W S12 hi2 bt1 (by rfl) fun tk8 => ?_
    walk_at "c"
    walk_at "g"
    refine subD ht2.dic S12 intKey_is a1 fun tk9 => ?_
    walk_at "g"
    refine itemT a2 S12 (by decide) (by decide) (v := va) rfl ?_
    walk_at "g"
    walk_at "k"
    refine unf_spec 3 6 (by omega) (by omega) W (R.less (by omega)) S12 X'.hy a3 fun v1 I7 h9 tk10 k7 hv1 S13 => ?_
    clear S12
    replace cs := cs.le k7
    replace cm := cm.le k7
    walk_at "g"
    refine getTb W S13 (hi1.le k7) at1 (by rfl) fun tk11 => ?_
    walk_at "g"
    walk_at "c"
    walk_at "g"
    refine subD (ht1.dic.le k7) S13 intKey_is c1' fun tk12 => ?_
    walk_at "g"
    refine itemT (c2.le k7) S13 (by decide) (by decide) (v := vc) rfl ?_
    walk_at "g"
    walk_at "k"
    refine unf_spec 3 6 (by omega) (by omega) W (R.less (by omega)) S13 (X'.hs.le k7) (c3.le k7) fun v2 I8 h10 tk13 k8 hv2 S14 => ?_
    clear S13
    rw [hu0] at hv1
    obtain ⟨tt, htt⟩ := unf_tup tb 3 d0
    rw [htt] at hv1 hv2
    obtain ⟨x1, _, rfl, _⟩ := id hv1
    obtain ⟨x2, _, rfl, _⟩ := id hv2
    refine neTupE (n := 113) (m := 113) (R.less (by omega)) S14 (by omega) (hv1.le k8) hv2 rfl ?_
    walk_at "g"
    exact hNx ⟨I8, _, _, _, _, rfl, k7.trans k8, ⟨_, rfl, rfl⟩, S14⟩
  · rintro I' l' C' h tk ⟨c1, rfl, rfl⟩ k6 S10
    exact q I' c1 h tk (X.le (k5.trans k6)) S10
end
end
section -- L5
open PySem PySem.W PyProof.Rows PySem.Calls PySem.Spec PySem.SeqAt
set_option maxRecDepth 100000
set_option maxHeartbeats 1000000
set_option linter.unusedVariables false
section
variable {w : World} {A : Around} {E : Value → Shared → Prop} {b : Bs} {h : Heap} {tk : Nat} {h₀ : Heap} {I : Fz} {C : List Cell} {Q : Value → Shared → Prop} {n : Nat} {d tr : D} {v kept : Value} {x y : Addr} {tb : Tab} {a L p acc : Addr} {c0 : Option Value}
theorem mem6 {h₀ : Heap} {I : Fz} {h : Heap} {C : List Cell} {c1 c2 c3 c4 c5 c6 : Cell} (S : St h₀ I (c1 :: c2 :: c3 :: c4 :: c5 :: c6 :: C) h) : c6 ∈ c1 :: c2 :: c3 :: c4 :: c5 :: c6 :: C := by simp
open Classical in
theorem eqLstB {m n : Nat} {l k : List T} {z : Bool} (R : Rm A 5) (S : St h₀ I C h) (hn : n ≤ 300) (a : IsTv I (n + 1) (.lst l) (.ref x)) (c : IsTv I (m + 1) (.lst k) (.ref y)) (e : z = true ↔ l = k) (q : Q (.bool z) (sh b h tk)) : wpAny (model P0 w) A (compareOp .Eq (.ref x) (.ref y)) Q E (sh b h tk) :=
  eqLst R S hn a c (by rw [show (decide (l = k)) = z by cases z <;> simp_all]; exact q)
open Classical in
theorem eqTupB {m n : Nat} {l k : List T} (R : Rm A 5) (S : St h₀ I C h) (hn : n ≤ 300) (a : IsTv I (n + 1) (.tup l) (.ref x)) (c : IsTv I (m + 1) (.tup k) (.ref y)) (q1 : l = k → Q (.bool true) (sh b h tk)) (q0 : l ≠ k → Q (.bool false) (sh b h tk)) : wpAny (model P0 w) A (compareOp .Eq (.ref x) (.ref y)) Q E (sh b h tk) :=
  eqTup R S hn a c (by
    by_cases e : l = k
    · rw [decide_eq_true e]; exact q1 e
    · rw [decide_eq_false e]; exact q0 e)
theorem ints_snoc {n : Int} {t : Tok} : ∀ {vs : List Value} {ns : List Int}, IntsAre vs ns → IntsAre (vs ++ [.int n t]) (ns ++ [n])
  | _, _, .nil => .cons _ _ .nil
  | _, _, .cons _ _ r => .cons _ _ (ints_snoc r)
theorem law_r5 (W : Wd (KK w.params) h₀) (R : Rm A 90) (X : Ctx w I L x y tb tr kept) (F : Facts tb tr (nTb tb tr) (nTr tb tr))
    (S : St h₀ I ((L, Loc [(Str.ofString "kept", kept)]) :: (L + 3, CellO c0) :: C) h)
    (q : ∀ I' c1 h' tk', Ctx w I' L x y tb tr kept → St h₀ I' ((L, Loc [(Str.ofString "kept", kept)]) :: (L + 3, CellO c1) :: C) h' → Goes w A L 10 b Q h' tk') : Goes w A L 9 b Q h tk := by
  unfold Goes
  have cs := X.cs
  have cm := X.cm
  have hln := X.hs.ok.ln
  refine wpAny_execs_cons ?_
  walk_at "g"
  refine wpAny_For ?_
  refine compF (h₀ := h₀) (cl := [(Str.ofString "made", L + 2)]) R.hd (by kernel_rfl) (by kernel_rfl) rfl (by kernel_rfl) (by kernel_rfl) fun HP hHP => ?_
  walk_at "g"
  refine getNumbers W (R.less (by omega)) S X.hs fun an vs I5 h6 tk6 k5 hl hv S8 => ?_
  clear S
  replace cs := cs.le k5
  replace cm := cm.le k5
  obtain ⟨ol, hol, hlo⟩ := hl
  refine itList S8 hol hlo fun it h7 tk7 N HI S9 => ?_
  clear S8
  have hvl : vs.length = tb.length := by rw [hv.length, List.length_map]
  refine hHP ⟨it, I5, I5, _, _, N, h7, tk7, _, b, fun i I' ys C' => (∃ ns, IntsAre ys ns ∧ ∀ n ∈ ns, ∃ g d, (n, g, d) ∈ tb ∧ (nTb tb tr).lookup n = none) ∧ C' = (L, Loc [(Str.ofString "kept", kept)]) :: (L + 3, CellO c0) :: C, rfl, rfl, HI, by rw [List.size_toArray]; omega, Le.rfl, S9, ⟨⟨[], .nil, by simp⟩, rfl⟩, ?_, ?_⟩
  · rintro i I' ys C' Lc acc h tk v hi' ⟨⟨ns, hns, hnp⟩, rfl⟩ k6 hv' S10 Nx hNx
    obtain ⟨kn, g, d, tm, rfl, hp⟩ := num_at hv (by simpa using hv')
    have X' := X.le (k5.trans k6)
    replace cs := cs.le k6
    replace cm := cm.le k6
    obtain ⟨l2, t2', kvs2, vt2, hi2, bt1, bt2, ht2, htr2, hm2⟩ := X'.hy.ex
    refine wpAny_tests_one ?_
    walk_at "g"
    refine getTb W S10 hi2 bt1 (by rfl) fun tk8 => ?_
    refine dNotIn (ht2.dic.dh S10) intKey_is fun tk9 => ?_
    rw [tab_in ht2.al]
    cases hlk : (nTb tb tr).lookup kn with
    | some z =>
      rw [show (Option.some z).isSome = true from rfl]
      walk_at "g"
      exact hNx ⟨I', _, _, _, rfl, Le.rfl, ⟨⟨ns, hns, hnp⟩, rfl⟩, S10⟩
    | none =>
      rw [show (Option.none : Option (Int × D)).isSome = false from rfl]
      walk_at "g"
      rw [if_pos (by rfl)]
      walk_at "n"
      refine hNx ⟨I', _, _, _, rfl, Le.rfl, ⟨⟨ns ++ [kn], ints_snoc hns, fun n hn => ?_⟩, rfl⟩, S10⟩
      rcases List.mem_append.mp hn with hn | hn
      · exact hnp n hn
      · obtain rfl := List.mem_singleton.mp hn
        exact ⟨g, d, List.mem_of_getElem? hp, hlk⟩
  rintro I' ys C' acL h8 tk8 ⟨⟨ns, hns, hnp⟩, rfl⟩ k6 S10
  obtain ⟨I6, k7, hlr, S11⟩ := S10.frzL
  clear S10
  replace cs := (cs.le k6).le k7
  replace cm := (cm.le k6).le k7
  replace X := X.le (k5.trans (k6.trans k7))
  obtain ⟨olr, holr, hlor⟩ := hlr
  refine itList S11 holr hlor fun it2 h9 tk9 N2 HI2 S12 => ?_
  clear S11
  refine forF HI2 R.hd (fun i I' l' C' => ∃ c1, l' = [(Str.ofString "kept", kept)] ∧ C' = (L + 3, CellO c1) :: C) S12.swap Le.rfl ⟨c0, rfl, rfl⟩ ?_ ?_
  · rintro i I' l' C' h tk v hi' ⟨c1, rfl, rfl⟩ k8 hv' S13 Nx hNx
    obtain ⟨kn, tm, rfl, hm2⟩ := ints_of hns (show ys[i]? = some v by simpa using hv')
    obtain ⟨g, d, hmem, hlk⟩ := hnp kn (List.mem_of_getElem? hm2)
    obtain ⟨ir, hir⟩ := List.mem_iff_getElem?.mp hmem
    have hdk := look_at X.hs.ok.pw hir
    have X' := X.le k8
    replace cs := cs.le k8
    replace cm := cm.le k8
    obtain ⟨hpg, s, hsm, hsk, gs, ds, hds, hsu⟩ := F.p4 _ hmem hlk
    refine wpAny_assign_Name ?_
    refine stC (S13.perm (List.perm_middle (l₁ := [_, _]))) rfl (fun h8 S14 => ?_) rfl rfl
    have S15 := S14.perm (List.perm_middle (l₁ := [_, _])).symm
    clear S13 S14
    refine wpAny_execs_cons ?_
    refine compA (h₀ := h₀) (cl := [(Str.ofString "shelf", L + 1), (Str.ofString "k", L + 3)]) R.hd (by rfl) (by rfl) (by with_unfolding_all rfl) (by kernel_rfl) (by kernel_rfl) rfl (by kernel_rfl) (by kernel_rfl) fun HP hHP => ?_
    walk_at "g"
    refine getNumbers W (R.less (by omega)) S15 X'.hy fun an2 vs2 I7 h10 tk10 k9 hl2 hv2 S16 => ?_
    clear S15
    obtain ⟨ol2, hol2, hlo2⟩ := hl2
    refine itList S16 hol2 hlo2 fun it3 h11 tk11 N3 HI3 S17 => ?_
    clear S16
    have hvl2 : vs2.length = (nTb tb tr).length := by rw [hv2.length, List.length_map]
    have hln2 : (nTb tb tr).length ≤ 6 := X.hy.ok.ln
    refine hHP ⟨it3, I7, I7, _, _, N3, h11, tk11, _, b, fun j I' ys C' => (∃ ns, IntsAre ys ns ∧ ∀ j' < j, (nTb tb tr)[j']? = some s → ys ≠ []) ∧ C' = (L, Loc [(Str.ofString "kept", kept)]) :: (it2, N2 (i + 1)) :: (L + 3, CellO (some (.int kn tm))) :: C, rfl, rfl, HI3, by rw [List.size_toArray]; omega, Le.rfl, S17, ⟨⟨[], .nil, by omega⟩, rfl⟩, ?_, ?_⟩
    · rintro j I8 ys2 C8 Lc acc2 h tk v hj ⟨⟨ns2, hns2, hne2⟩, rfl⟩ k10 hv3 S18 Nx hNx
      obtain ⟨jn, gj, dj, tmj, rfl, hpj⟩ := num_at hv2 (show vs2[j]? = some v by simpa using hv3)
      have X8 := X'.le (k9.trans k10)
      replace cs := cs.le (k9.trans k10)
      have hkm := mem6 S18
      obtain ⟨dj0, hdj0, _⟩ := F.p2 _ (List.mem_of_getElem? hpj)
      obtain ⟨l1, t1', kvs1, vt1, hi1, at1, at2, ht1, htr1, hm1⟩ := X8.hs.ex
      obtain ⟨ta, ua, va, a1, a2, a3⟩ := tab_look ht1.al hdj0
      obtain ⟨tc, uc, vc, c1, c2, c3⟩ := tab_look ht1.al hdk
      refine wpAny_tests_one ?_
      walk_at "g"
      walk_at "c"
      walk_at "g"
      refine ifB (fun hlt => ?_) (fun hlt => ?_)
      · walk_at "g"
        refine getTb W S18 hi1 at1 (by rfl) fun tk12 => ?_
        walk_at "g"
        refine subD ht1.dic S18 intKey_is a1 fun tk13 => ?_
        walk_at "g"
        refine itemT a2 S18 (by decide) (by decide) (v := va) rfl ?_
        walk_at "g"
        walk_at "k"
        refine unf_spec 3 6 (by omega) (by omega) W (R.less (by omega)) S18 X8.hs a3 fun v1 I9 h13 tk14 k11 hv4 S19 => ?_
        clear S18
        replace cs := cs.le k11
        walk_at "g"
        refine getTb W S19 (hi1.le k11) at1 (by rfl) fun tk15 => ?_
        walk_at "g"
        walk_at "c"
        walk_at "g"
        refine subD (ht1.dic.le k11) S19 intKey_is c1 fun tk16 => ?_
        walk_at "g"
        refine itemT (c2.le k11) S19 (by decide) (by decide) (v := vc) rfl ?_
        walk_at "g"
        walk_at "k"
        refine unf_spec 3 6 (by omega) (by omega) W (R.less (by omega)) S19 (X8.hs.le k11) (c3.le k11) fun v2 I10 h14 tk17 k12 hv5 S20 => ?_
        clear S19
        obtain ⟨t1, ht1'⟩ := unf_tup tb 3 dj0
        obtain ⟨t2, ht2'⟩ := unf_tup tb 3 d
        rw [ht1'] at hv4
        rw [ht2'] at hv5
        obtain ⟨x1, _, rfl, _⟩ := id hv4
        obtain ⟨x2, _, rfl, _⟩ := id hv5
        refine eqTupB (n := 113) (m := 113) (R.less (by omega)) S20 (by omega) (hv4.le k12) hv5 (fun _ => ?_) (fun hne => ?_)
        · walk_at "g"
          exact hNx ⟨I10, _, _, _, rfl, k11.trans k12, ⟨⟨_, ints_snoc hns2, fun j' _ _ => by simp⟩, rfl⟩, S20⟩
        · walk_at "g"
          refine hNx ⟨I10, _, _, _, rfl, k11.trans k12, ⟨⟨_, hns2, fun j' hj' hs' => ?_⟩, rfl⟩, S20⟩
          by_cases hjj : j' < j
          · exact hne2 j' hjj hs'
          · obtain rfl : j' = j := by omega
            rw [hpj] at hs'
            obtain rfl := Option.some.inj hs'
            rw [hdj0] at hds
            cases hds
            rw [ht1', ht2'] at hsu
            exact absurd (T.tup.inj hsu) hne
      · walk_at "g"
        refine hNx ⟨I8, _, _, _, rfl, Le.rfl, ⟨⟨_, hns2, fun j' hj' hs' => ?_⟩, rfl⟩, S18⟩
        by_cases hjj : j' < j
        · exact hne2 j' hjj hs'
        · obtain rfl : j' = j := by omega
          rw [hpj] at hs'
          obtain rfl := Option.some.inj hs'
          simp at hlt hsk
          omega
    · rintro I8 ys2 C8 ⟨⟨ns2, hns2, hne2⟩, rfl⟩ k10
      refine ⟨_, _, rfl, fun acc2 h12 tk12 S18 => ?_⟩
      have hyne : ys2 ≠ [] := by
        obtain ⟨js, hjs⟩ := List.mem_iff_getElem?.mp hsm
        exact hne2 js (by rw [List.size_toArray, hvl2]; exact (List.getElem?_eq_some_iff.mp hjs).1) hjs
      obtain ⟨I9, k11, hl9, S19⟩ := S18.swap.frzL
      clear S18
      replace cs := cs.le (k9.trans (k10.trans k11))
      have hkm : (L + 3, CellO (some (.int kn tm))) ∈ _ := mem3 S19
      replace X' := X'.le (k9.trans (k10.trans k11))
      obtain ⟨l1, t1', kvs1, vt1, hi1, at1, at2, ht1, htr1, hm1⟩ := X'.hs.ex
      obtain ⟨tc, uc, vc, c1, c2, c3⟩ := tab_look ht1.al hdk
      walk_at "g"
      refine lstN S19 (by simp) fun xl I10 h13 k12 il S20 => ?_
      clear S19
      have hz1 : IsTv I10 2 (.lst (ns2.map T.int)) (.ref acc2) := lstTv (hl9.le k12) hns2
      have hz2 : IsTv I10 2 (.lst (([] : List Int).map T.int)) (.ref xl) := lstTv il .nil
      replace cs := cs.le k12
      have hnn : ¬ ns2.map T.int = ([] : List Int).map T.int := fun e => by
        have e' : ns2 = [] := mapInt_inj.mp e
        subst e'; cases hns2; exact hyne rfl
      refine eqLstB (n := 1) (m := 1) (z := false) (R.less (by omega) : Rm A 5) S20 (by omega) hz1 hz2 (by simpa using hnn) ?_
      walk_at "g"
      refine getTb W S20 (hi1.le k12) at1 (by rfl) fun tk14 => ?_
      walk_at "g"
      walk_at "c"
      walk_at "g"
      refine subD (ht1.dic.le k12) S20 intKey_is c1 fun tk15 => ?_
      walk_at "g"
      refine itemT (c2.le k12) S20 (by decide) (by decide) (v := vc) rfl ?_
      walk_at "g"
      walk_at "k"
      refine page_spec W (R.less (by omega)) S20 (c3.le k12) fun h14 tk16 S21 => ?_
      rw [hpg]
      walk_at "g"
      exact hNx ⟨I10, _, _, _, _, rfl, k9.trans (k10.trans (k11.trans k12)), ⟨_, rfl, rfl⟩, S21.mono fun o ho => ho.sub (m := [(Str.ofString "kept", kept)]) ⟨rfl, trivial⟩⟩
  · rintro I' l' C' h tk ⟨c1, rfl, rfl⟩ k6 S10
    exact q I' c1 h tk (X.le k6) S10
end
end
section -- L6
open PySem PySem.W PyProof.Rows PySem.Calls PySem.Spec PySem.SeqAt
set_option maxRecDepth 100000
set_option maxHeartbeats 1000000
set_option linter.unusedVariables false
section
variable {w : World} {A : Around} {E : Value → Shared → Prop} {b : Bs} {h : Heap} {tk : Nat} {h₀ : Heap} {I : Fz} {C : List Cell} {Q : Value → Shared → Prop} {n : Nat} {d tr : D} {v kept : Value} {x y : Addr} {tb : Tab} {a L p acc : Addr} {c0 : Option Value}
theorem law_r6 (W : Wd (KK w.params) h₀) (R : Rm A 90) (X : Ctx w I L x y tb tr kept) (F : Facts tb tr (nTb tb tr) (nTr tb tr))
    (S : St h₀ I ((L, Loc [(Str.ofString "kept", kept)]) :: (L + 3, CellO c0) :: C) h)
    (q : ∀ I' h' tk', Ctx w I' L x y tb tr kept → St h₀ I' ((L, Loc [(Str.ofString "kept", kept)]) :: (L + 3, CellO c0) :: C) h' → Goes w A L 11 b Q h' tk') : Goes w A L 10 b Q h tk := by
  unfold Goes
  have cs := X.cs
  have cm := X.cm
  obtain ⟨l1, t1', kvs1, vt1, hi1, at1, at2, ht1, htr1, hm1⟩ := X.hs.ex
  obtain ⟨l2, t2', kvs2, vt2, hi2, bt1, bt2, ht2, htr2, hm2⟩ := X.hy.ex
  refine wpAny_execs_cons ?_
  walk_at "g"
  refine getTr W S hi2 bt2 (handD htr2) fun tk1 => ?_
  walk_at "g"
  walk_at "k"
  refine unf_spec 3 6 (by omega) (by omega) W (R.less (by omega)) S X.hy htr2 fun v1 I3 h3 tk3 k3 hv1 S3 => ?_
  clear S
  replace cs := cs.le k3
  replace cm := cm.le k3
  walk_at "g"
  refine getTr W S3 (hi1.le k3) at2 (handD htr1) fun tk4 => ?_
  walk_at "g"
  walk_at "k"
  refine unf_spec 3 6 (by omega) (by omega) W (R.less (by omega)) S3 (X.hs.le k3) (htr1.le k3) fun v2 I5 h5 tk5 k5 hv2 S5 => ?_
  clear S3
  replace cs := cs.le k5
  replace cm := cm.le k5
  rw [show unf (laps (tb.length + 1) tb tr).1 3 (laps (tb.length + 1) tb tr).2 = unf tb 3 tr from F.p5] at hv1
  obtain ⟨tt, htt⟩ := unf_tup tb 3 tr
  rw [htt] at hv1 hv2
  obtain ⟨x1, _, rfl, _⟩ := id hv1
  obtain ⟨x2, _, rfl, _⟩ := id hv2
  refine neTupE (n := 113) (m := 113) (R.less (by omega)) S5 (by omega) (hv1.le k5) hv2 rfl ?_
  walk_at "g"
  have k35 := k3.trans k5
  refine getM (K := KK w.params) (f := 353) W S5 ((hi1.le k35).h S5) (by kernel_rfl) (by kernel_rfl) (by kernel_rfl) (by kernel_rfl) (hm1 _ (by decide +kernel) (by decide +kernel)) ?_
  refine callWith_K0 (S5.Kin W) (by kernel_rfl) ?_
  refine tolds_spec W (R.less (by omega)) S5 (X.hs.le k35) fun v3 I6 h6 tk6 k6 hv3 S6 => ?_
  clear S5
  walk_at "g"
  have hk2 := X.hk.le (k35.trans k6)
  unfold toldSh at hv3 hk2
  obtain ⟨x3, _, rfl, _⟩ := id hv3
  obtain ⟨x4, _, rfl, _⟩ := id hk2
  refine neTupE (n := 14) (m := 14) (R.less (by omega)) S6 (by omega) hv3 hk2 rfl ?_
  walk_at "h"
  exact q I6 _ _ (X.le (k35.trans k6)) S6
theorem law_r7 (W : Wd (KK w.params) h₀) (R : Rm A 90) (X : Ctx w I L x y tb tr kept)
    (S : St h₀ I ((L, Loc [(Str.ofString "kept", kept)]) :: (L + 3, CellO c0) :: C) h)
    (q : ∀ I' acc ys h' tk', Ctx w I' L x y tb tr kept → ListF I' acc ys → StrsAre ys (reps tb) → St h₀ I' ((L, Loc [(Str.ofString "plain", .ref acc), (Str.ofString "kept", kept)]) :: (L + 3, CellO c0) :: C) h' → Goes w A L 12 b Q h' tk') : Goes w A L 11 b Q h tk := by
  unfold Goes
  have cs := X.cs
  refine wpAny_execs_cons ?_
  obtain ⟨l2, t2, kvs2, vt2, hi2, bt1, bt2, ht2, htr2, hm2⟩ := X.hs.ex
  refine compA (h₀ := h₀) (cl := [(Str.ofString "shelf", L + 1)]) R.hd (by rfl) (by rfl) (by with_unfolding_all rfl) (by kernel_rfl) (by kernel_rfl) rfl (by kernel_rfl) (by kernel_rfl) fun HP hHP => ?_
  walk_at "g"
  refine getNumbers W (R.less (by omega)) S X.hs fun an vs I5 h6 tk6 k5 hl hv S8 => ?_
  clear S
  obtain ⟨ol, hol, hlo⟩ := hl
  refine itList S8 hol hlo fun it h7 tk7 N HI S9 => ?_
  clear S8
  have hvl : vs.length = tb.length := by rw [hv.length, List.length_map]
  have hln := X.hs.ok.ln
  refine hHP ⟨it, I5, I5, _, _, N, h7, tk7, _, b, fun i I' ys C' => StrsAre ys (reps (tb.take i)) ∧ C' = (L, Loc [(Str.ofString "kept", kept)]) :: (L + 3, CellO c0) :: C, rfl, rfl, HI, by rw [List.size_toArray]; omega, Le.rfl, S9, ⟨.nil, rfl⟩, ?_, ?_⟩
  · rintro i I' ys C' Lc acc h tk v hi' ⟨hys, rfl⟩ k6 hv' S10 Nx hNx
    obtain ⟨kn, g, d, tm, rfl, hp⟩ := num_at hv (show vs[i]? = some v by simpa using hv')
    obtain ⟨t', u, v', e1, e2, e3⟩ := tab_look ht2.al (look_at X.hs.ok.pw hp)
    have kk := k5.trans k6
    replace cs := cs.le kk
    refine wpAny_tests_one ?_
    walk_at "g"
    refine getTb W S10 (hi2.le kk) bt1 (by rfl) fun tk8 => ?_
    walk_at "g"
    refine subD (ht2.dic.le kk) S10 intKey_is e1 fun tk9 => ?_
    walk_at "g"
    refine itemT (e2.le kk) S10 (by decide) (by decide) (v := v') rfl ?_
    walk_at "g"
    walk_at "k"
    refine page_spec W (R.less (by omega)) S10 (e3.le kk) fun h8 tk10 S11 => ?_
    clear S10
    walk_at "g"
    refine ifB (fun hn => ?_) (fun hn => ?_)
    · walk_at "g"
      refine getTb W S11 (hi2.le kk) bt1 (by rfl) fun tk11 => ?_
      walk_at "g"
      refine subD (ht2.dic.le kk) S11 intKey_is e1 fun tk12 => ?_
      walk_at "g"
      refine itemT (e2.le kk) S11 (by decide) (by decide) (v := v') rfl ?_
      walk_at "g"
      walk_at "k"
      refine told_spec 6 W (R.less (by omega)) S11 (e3.le kk) fun v2 I6 h9 tk13 k7 hv2 S12 => ?_
      walk_at "g"
      refine rep_spec (R.less (by omega)) S12 ((e3.le kk).le k7) hv2 fun tr2 h10 tk14 S13 => ?_
      refine hNx ⟨I6, _, h10, _, rfl, k7, ⟨?_, rfl⟩, S13⟩
      rw [reps_snoc hp, if_pos hn]
      exact strs_snoc hys
    · refine hNx ⟨I', _, h8, _, rfl, Le.rfl, ⟨?_, rfl⟩, S11⟩
      rw [reps_snoc hp, if_neg (by rw [hn]; simp), List.append_nil]
      exact hys
  · rintro I' ys C' ⟨hys, rfl⟩ k6
    refine ⟨_, _, rfl, fun acc h8 tk8 S10 => ?_⟩
    rw [List.take_of_length_le (by rw [List.size_toArray, hvl]; exact Nat.le_refl _)] at hys
    obtain ⟨I6, k7, hlr, S11⟩ := S10.swap.frzL
    exact q I6 acc ys h8 tk8 (X.le (k5.trans (k6.trans k7))) hlr hys S11
theorem law_r8 {ys : List Value} (W : Wd (KK w.params) h₀) (R : Rm A 90) (X : Ctx w I L x y tb tr kept) (F : Facts tb tr (nTb tb tr) (nTr tb tr)) (hl : ListF I acc ys) (hr : StrsAre ys (reps tb))
    (S : St h₀ I ((L, Loc [(Str.ofString "plain", .ref acc), (Str.ofString "kept", kept)]) :: (L + 3, CellO c0) :: C) h)
    (q : ∀ I' C' h' tk', St h₀ I' C' h' → Q (.bool true) (sh b h' tk')) : Goes w A L 12 b Q h tk := by
  unfold Goes
  have cs := X.cs
  have cm := X.cm
  have hln := X.hs.ok.ln
  have hln2 := X.hy.ok.ln
  obtain ⟨l1, t1', kvs1, vt1, hi1, at1, at2, ht1, htr1, hm1⟩ := X.hs.ex
  obtain ⟨l2, t2', kvs2, vt2, hi2, bt1, bt2, ht2, htr2, hm2⟩ := X.hy.ex
  have hyl : ys.length ≤ 6 := by rw [StrsAre.len_eq hr]; exact Nat.le_trans (reps_len _) hln
  refine wpAny_execs_cons ?_
  walk_at "g"
  refine lenL S hl (by omega) fun t1 tk1 => ?_
  walk_at "g"
  refine setOfL (R.less (by omega)) S hl hr (by rw [← StrsAre.len_eq hr]; unfold scanBound; omega) fun sa h1 tk2 ac S1 nd hm => ?_
  clear S
  walk_at "g"
  refine lenSet S1 fun t2 tk3 => ?_
  have S2 := S1.tail
  clear S1
  have e1 := nodup_len nd hm
  walk_at "g"
  by_cases hnd : (reps tb).Nodup
  · have e2 : ac.length = ys.length := by rw [e1.1 hnd, StrsAre.len_eq hr]
    rw [show decide ((ac.length : Int) < (ys.length : Int)) = false by rw [e2]; simp]
    walk_at "g"
    refine getTb W S2 hi2 bt1 (by rfl) fun tk4 => ?_
    walk_at "g"
    refine sortInt (R.less (by omega)) S2 ht2.dic (by rw [← ht2.al.len]; omega) (rowKeys ht2.al ▸ X.hy.ok.pw) fun x3 vs3 I3 h3 tk5 k3 l3 i3 S3 => ?_
    clear S2
    replace cs := cs.le k3
    walk_at "g"
    refine getTb W S3 (hi1.le k3) at1 (by rfl) fun tk6 => ?_
    walk_at "g"
    refine sortInt (R.less (by omega)) S3 (ht1.dic.le k3) (by rw [← ht1.al.len]; omega) (rowKeys ht1.al ▸ X.hs.ok.pw) fun x4 vs4 I4 h4 tk7 k4 l4 i4 S4 => ?_
    clear S3
    have hz1 := lstTv (l3.le k4) i3
    have hz2 := lstTv l4 i4
    refine eqLstB (n := 1) (m := 1) (z := true) (R.less (by omega) : Rm A 5) S4 (by omega) hz1 hz2 (by
      rw [← rowKeys ht2.al, ← rowKeys ht1.al]
      simpa using congrArg (List.map T.int) (F.p6 hnd)) ?_
    exact q _ _ _ _ S4
  · have e2 : ac.length < ys.length := by rw [StrsAre.len_eq hr]; exact e1.2 hnd
    rw [show decide ((ac.length : Int) < (ys.length : Int)) = true by simpa using e2]
    exact q _ _ _ _ S2
end
end
section -- L7
open PySem PySem.W PyProof.Rows PySem.Calls PySem.Spec PySem.SeqAt
set_option maxRecDepth 100000
set_option maxHeartbeats 1000000
set_option linter.unusedVariables false
section
variable {w : World} {A : Around} {E : Value → Shared → Prop} {b : Bs} {h : Heap} {tk : Nat} {h₀ : Heap} {I : Fz} {C : List Cell} {Q : Value → Shared → Prop} {n : Nat} {d tr : D} {v : Value} {x : Addr} {tb : Tab} {a : Addr}
theorem law_spec (hF : ∀ (tb : Tab) (tr : D), TabOk tb → (∀ r ∈ tb, DOk 6 r.2.2) → DOk 6 tr → Facts tb tr (nTb tb tr) (nTr tb tr)) {vs : List Value} {ns : List Int} (W : Wd (KK w.params) h₀) (R : Rm A 100) (S : St h₀ I [] h) (hl : ListF I a vs) (hi_ : IntsAre vs ns) (hz : vs.length ≤ 1000) (q : Post w h₀ b Q) :
    wpAny (model P0 w) A (call (.ref 423) [.ref a]) Q E (sh b h tk) := by
  refine callC W R S (f_law w.params) (binds := [(Str.ofString "script", .ref a)]) (fun pm => BindsTo.of_eq (by kernel_rfl)) (by kernel_rfl) (by decide +kernel) rfl rfl rfl fun A' L h1 tk1 R' S0 => ?_
  have S1 : St h₀ I ((L, Loc [(Str.ofString "script", .ref a)]) :: (L + 3, CellO none) :: (L + 2, CellO none) :: (L + 1, CellO none) :: []) h1 := by
    have e : (L, Loc (locB (fun x => (scoOf (stAt 31)).names.lookup x) [(Str.ofString "script", Value.ref a)])) :: ((cellsFrom (L + 1) (scoOf (stAt 31)).names []).map fun x => (x.2, CellO (bindC (fun x => (scoOf (stAt 31)).names.lookup x) [(Str.ofString "script", Value.ref a)] (fun _ => none) x.1))) ++ [] = ((L, Loc [(Str.ofString "script", .ref a)]) :: (L + 3, CellO none) :: (L + 2, CellO none) :: (L + 1, CellO none) :: [] : List Cell) := by kernel_rfl
    exact e ▸ S0
  clear S0
  have hcl : cellsFrom (L + 1) (scoOf (stAt 31)).names [] = [(Str.ofString "k", L + 3), (Str.ofString "made", L + 2), (Str.ofString "shelf", L + 1)] := by kernel_rfl
  rw [hcl]
  refine wpAny_execs_cons ?_
  walk_at "g"
  walk_at "k"
  refine pen_spec W (R'.less (by omega)) S1 hl hi_ hz fun p I2 h2 tk2 k2 S2 => ?_
  have S3 := S2.swap
  clear S1 S2
  walk_at "s"; intro h3 tk3 S4; clear S3
  walk_at "g"
  walk_at "k"
  refine shelf_spec W (R'.less (by omega)) S4.swap fun x tb kvs os dtr vt l I3 h4 tk4 k3 ix at2 at1 htd htr hkv hmx S5 => ?_
  clear S4
  have S6 := (S5.perm (.cons _ List.perm_append_comm)).perm (List.perm_middle (l₁ := [_, _, _, _]))
  clear S5
  refine stC S6 rfl (fun h5 S7 => ?_) rfl rfl
  clear S6
  obtain ⟨I4, k4, cs, S8⟩ := S7.frzC
  have S9 := St.imp (S8.perm (.swap _ _ _)) (D := (L, Loc [(Str.ofString "pen", Value.ref p), (Str.ofString "script", Value.ref a)]) :: (p, PenC 1000) :: (L + 3, CellO none) :: (L + 2, CellO none) :: topsC w I4 os)
    (.cons (fun _ h => h) (.cons (fun _ h => h) (.cons (fun _ h => h) (.cons (fun _ h => h) (Imp2.tops k4 os)))))
  clear S7 S8
  walk_at "g"
  refine wpAny_For ?_
  walk_at "g"
  have hkl := hkv.ln
  refine numbersK W (R'.less (by omega)) S9 (ix.le k4) at1 hmx (htd.le k4) (by omega) hkv.pw fun an vs2 I5 h6 tk6 k5 hln hvn S10 => ?_
  clear S9
  replace cs := cs.le k5
  obtain ⟨oln, holn, hlon⟩ := hln
  refine itList S10 holn hlon fun it h7 tk7 N HI S11 => ?_
  clear S10
  have k6 : Le I3 I5 := k4.trans k5
  refine forF HI R'.hd (fun i I' l' C' => ∃ os1 os2, os1.length = i ∧ (∀ s ∈ os1, s = .done) ∧ (∀ s ∈ os2, s ≠ .done) ∧ All2 (EntOk w I') kvs (os1 ++ os2) ∧
    l' = [(Str.ofString "pen", Value.ref p), (Str.ofString "script", Value.ref a)] ∧ C' = (p, PenC (1000 + i)) :: (L + 3, CellO none) :: (L + 2, CellO none) :: topsC w I' os2)
    (S11.swap.imp (.cons (fun _ h => h) (.cons (fun _ h => h) (.cons (fun _ h => h) (.cons (fun _ h => h) (.cons (fun _ h => h) (Imp2.tops k5 os))))))) Le.rfl ⟨[], os, rfl, by simp, hkv.nd, hkv.al.imp fun _ _ z => z.le k6, rfl, rfl⟩ ?_ ?_
  · rintro i I' l' C' h tk v hi' ⟨os1, os2, hos1, hdn, hnd, hal, rfl, rfl⟩ k7 hv' S12 Nx hNx
    obtain ⟨m, tm, rfl, hm2⟩ := ints_of hvn (show vs2[i]? = some v by simpa using hv')
    obtain ⟨⟨kn, kv⟩, hp, hpk⟩ : ∃ p, kvs[i]? = some p ∧ p.1 = m := by
      rw [List.getElem?_map] at hm2
      cases e : kvs[i]? with
      | none => rw [e] at hm2; cases hm2
      | some p => rw [e] at hm2; exact ⟨p, rfl, by simpa using hm2⟩
    obtain rfl : kn = m := hpk
    obtain ⟨s, hs, t', g, tg, u, rfl, itt, hg, hsl⟩ := hal.atL hp
    cases os2 with
    | nil => rw [List.append_nil, List.getElem?_eq_none (by omega)] at hs; cases hs
    | cons s2 os2 =>
    have hss : s2 = s := by rw [List.getElem?_append_right (by omega), hos1, Nat.sub_self] at hs; exact Option.some.inj hs
    subst hss
    have hnd2 : ∀ z ∈ os2, z ≠ .done := fun z hz => hnd z (.tail _ hz)
    have kx : Le I4 I' := k5.trans k7
    have hi6 : i < 7 := by rw [List.size_toArray, hvn.length, List.length_map] at hi'; omega
    replace cs := cs.le k7
    have hdn2 : ∀ z ∈ os1 ++ [Sl.done], z = .done := fun z hz => by
      rcases List.mem_append.mp hz with hz | hz
      · exact hdn z hz
      · exact List.mem_singleton.mp hz
    have hval : valueAt kvs kn = some (.ref t') := valueAt_ofK (dic_nodup htd) hp
    refine wpAny_assign_Name ?_
    walk_at "s"; intro h8 tk8 S13; clear S12
    refine wpAny_execs_cons ?_
    walk_at "g"
    refine getTb W S13 ((ix.le k4).le kx) at1 (by rfl) fun tk9 => ?_
    walk_at "g"
    refine subD ((htd.le k4).le kx) S13 intKey_is hval fun tk10 => ?_
    walk_at "g"
    refine itemT itt S13 (by decide) (by decide) (v := u) rfl ?_
    walk_at "s"; intro h9 tk11 S14; clear S13
    walk_at "g"
    cases s2 with
    | done => exact absurd rfl (hnd .done (.head _))
    | fixed =>
      obtain ⟨d, hd, hdd⟩ := hsl
      refine iiD .dict W S14 hd fun tk12 => ?_
      have e0 : isK .dict d = false := by cases d <;> first | rfl | exact absurd rfl (hdd _)
      rw [e0]
      walk_at "g"
      refine hNx ⟨I', _, _, h9, _, rfl, Le.rfl, ⟨os1 ++ [.done], os2, by simp [hos1], hdn2, hnd2, ?_, rfl, rfl⟩, S14.imp (.cons (fun o ho => ho.sub (m := [(Str.ofString "pen", Value.ref p), (Str.ofString "script", Value.ref a)]) ⟨rfl, rfl, trivial⟩) (.cons (fun _ h => h) (.cons (fun o ho => PenC.up ho (by push_cast; omega)) (Imp2.refl _))))⟩
      rw [List.append_assoc]
      exact All2.set hal fun z hz => by
        rw [hos1, hp] at hz; cases hz
        exact ⟨t', g, tg, u, rfl, itt, hg, d, hd⟩
    | top y =>
      obtain rfl : u = .ref y := hsl
      obtain ⟨oy, hoy, ly, kvy, hcy, hry, hly, hky⟩ := S14.cs (y, TopC w I' 4 y) (by simp [topsC])
      refine ii_heap_T S14 hoy (isDic_cls hcy) ?_
      walk_at "g"
      walk_at "k"
      refine drawN [_, _] W (R'.less (by omega)) S14 (by omega) (by decide) (by decide) fun dr tdr h10 tk13 dr0 dr1 S15 => ?_
      clear S14
      walk_at "g"
      refine ifB (fun h0 => ?_) (fun h0 => ?_)
      · walk_at "g"
        walk_at "k"
        refine newName W (R'.less (by omega)) S15 fun xn I6 h11 tk14 k8 ixn S16 => ?_
        clear S15
        walk_at "g"
        have S17 := S16.perm (List.perm_middle (l₁ := [_, _, _, _, _]))
        obtain ⟨oy2, hoy2, ly2, kvy2, hcy2, hry2, hly2, hky2⟩ := S17.head
        refine dSet (k := Str.ofString "Type") (DicH.ofC ⟨oy2, hoy2, hcy2⟩) (strKind_is P0 w _ _) (by rw [← hry2.len]; omega) fun h12 tk15 he hx => ?_
        obtain ⟨oy3, hoy3, S18⟩ := (S17.same he hx).freeze
        clear S16 S17
        walk_at "g"
        have hnm : IsD w I6 4 (.name (Str.ofString "Page")) (.ref xn) := ⟨xn, _, rfl, ixn, by decide +kernel⟩
        have hrows := Rows.le (J := Add I6 y oy3) ((hry2.le k8).store hnm (Str.ofString "Type")) Add.le
        have hdy : IsD w (Add I6 y oy3) 5 (.dict (upd ly2 (Str.ofString "Type") (.name (Str.ofString "Page")))) (.ref y) := ⟨y, _, rfl, ⟨oy3, Add.new, hoy3⟩, hrows, by have := upd_len (l := ly2) (k := Str.ofString "Type") (d := .name (Str.ofString "Page")); omega, fun p hp => by
          rcases upd_row hp with rfl | hp
          · exact ⟨by decide +kernel, fun _ => rfl⟩
          · exact okRow_val (hky2 p hp)⟩
        have k9 : Le I' (Add I6 y oy3) := k8.trans Add.le
        refine hNx ⟨_, _, _, h12, _, rfl, k9, ⟨os1 ++ [.done], os2, by simp [hos1], hdn2, hnd2, ?_, rfl, rfl⟩, S18.imp (.cons (fun o ho => ho.sub (m := [(Str.ofString "pen", Value.ref p), (Str.ofString "script", Value.ref a)]) ⟨rfl, rfl, trivial⟩) (.cons (fun _ h => h) (.cons (fun o ho => PenC.up ho (by push_cast; omega)) (.cons (fun _ h => h) (.cons (fun _ h => h) (Imp2.tops k9 os2))))))⟩
        rw [List.append_assoc]
        exact All2.set (hal.imp fun _ _ z => z.le k9) fun z hz => by
          rw [hos1, hp] at hz; cases hz
          exact ⟨t', g, tg, _, rfl, itt.le k9, hg, _, hdy.to (by omega)⟩
      · obtain ⟨I6, ll, k9, hdy, S16⟩ := (S15.perm (List.perm_middle (l₁ := [_, _, _, _, _]))).frzTop
        clear S15
        walk_at "g"
        refine hNx ⟨I6, _, _, h10, _, rfl, k9, ⟨os1 ++ [.done], os2, by simp [hos1], hdn2, hnd2, ?_, rfl, rfl⟩, S16.imp (.cons (fun o ho => ho.sub (m := [(Str.ofString "pen", Value.ref p), (Str.ofString "script", Value.ref a)]) ⟨rfl, rfl, trivial⟩) (.cons (fun _ h => h) (.cons (fun o ho => PenC.up ho (by push_cast; omega)) (.cons (fun _ h => h) (.cons (fun _ h => h) (Imp2.tops k9 os2))))))⟩
        rw [List.append_assoc]
        exact All2.set (hal.imp fun _ _ z => z.le k9) fun z hz => by
          rw [hos1, hp] at hz; cases hz
          exact ⟨t', g, tg, _, rfl, itt.le k9, hg, _, hdy.to (by omega)⟩
  · rintro I' l' C' h tk ⟨os1, os2, hos1, hdn, hnd, hal, rfl, rfl⟩ k7 S12
    have hkn : kvs.length = (os1 ++ os2).length := hal.len
    have hvn2 : vs2.length = kvs.length := by rw [hvn.length, List.length_map]
    obtain rfl : os2 = [] := by
      rw [List.length_append, hos1, List.size_toArray] at hkn
      exact List.length_eq_zero_iff.mp (by omega)
    obtain ⟨T, hrw, hsm⟩ := rows_of hal (by simpa using hdn)
    have kf : Le I3 I' := k6.trans k7
    have hsf : ShelfF w I' x T (.dict dtr) := by
      refine ⟨⟨l, tb, kvs, vt, ix.le (k4.trans (k5.trans k7)), at1, at2, ⟨htd.le kf, hrw⟩, htr.le kf, hmx⟩, ⟨(rowKeys hrw) ▸ hkv.pw, by rw [hrw.len]; exact hkv.ln, fun p hp => ⟨?_, hsm p hp⟩⟩, ⟨_, rfl⟩⟩
      have hpm : p.1 ∈ kvs.map (·.1) := rowKeys hrw ▸ List.mem_map_of_mem hp
      obtain ⟨q0, hq0, e0⟩ := List.mem_map.mp hpm
      have := hkv.bd q0 hq0
      unfold smallI
      omega
    have hdo : ∀ r ∈ T, DOk 6 r.2.2 := fun r hr => by
      obtain ⟨i, hi⟩ := List.mem_iff_getElem?.mp hr
      obtain ⟨kv, _, _, t, tg, u, _, _, hd⟩ := hrw.atL hi
      exact isD_ok 6 hd
    have F := hF T (.dict dtr) hsf.ok hdo (isD_ok 6 (htr.le kf))
    have S13 : St h₀ I' ((L, Loc [(Str.ofString "pen", Value.ref p), (Str.ofString "script", Value.ref a)]) :: (L + 3, CellO none) :: (L + 2, CellO none) :: topsC w I' []) h := (S12.swap).tail
    have R2 : Rm A' 90 := R'.less (by omega)
    refine law_rest W R2 S13 (cs.le k7) hsf fun I8 y kept acc ys h8 tk8 X hl8 hr8 S14 => ?_
    refine law_r2 W R2 X F hl8 hr8 S14 fun I9 h9 tk9 X S15 => ?_
    refine law_r3 W R2 X F S15 fun I10 h10 tk10 X S16 => ?_
    refine law_r4 W R2 X F S16 fun I11 c11 h11 tk11 X S17 => ?_
    refine law_r5 W R2 X F S17 fun I12 c12 h12 tk12 X S18 => ?_
    refine law_r6 W R2 X F S18 fun I13 h13 tk13 X S19 => ?_
    refine law_r7 W R2 X S19 fun I14 acc14 ys14 h14 tk14 X hl14 hr14 S20 => ?_
    exact law_r8 W R2 X F hl14 hr14 S20 q
end
end
section -- L8
open PySem PySem.W PyProof.Rows PySem.Calls PySem.Spec PySem.SeqAt
set_option maxRecDepth 100000
set_option maxHeartbeats 1000000
set_option linter.unusedVariables false
theorem g_law (P : Params) : nsIn (KK P) mainGlobals (Str.ofString "law") = some (some (Value.ref 423)) := by kernel_rfl
theorem pre_open {args : List WData} (h : Challenge.rw_nn0124_01.row.claim.pre args = true) : ∃ ns : List Int, args = [.list (ns.map .int)] ∧ ns.length ≤ 63 := by
  obtain ⟨h1, h2⟩ := Bool.and_eq_true_iff.mp (show (WShape.hasAll [] args [.list .int] && WTm.holds [] (.and (.not (.lt (.lit (.int 63)) (.len (.arg 0)))) (.lit (.bool true))) { args := args }) = true from h)
  cases args with
  | nil => cases h1
  | cons d r =>
    obtain ⟨h3, h4⟩ := Bool.and_eq_true_iff.mp (show (WShape.has [] d (.list .int) && WShape.hasAll [] r []) = true from h1)
    cases r with
    | cons _ _ => cases h4
    | nil =>
      obtain ⟨xs, rfl, h5⟩ := hasW_list h3
      obtain ⟨ns, rfl⟩ := items_int h5
      refine ⟨ns, rfl, ?_⟩
      have e : W.less? (.int 63) (.int (ns.length : Int)) = some (decide ((63 : Int) < (ns.length : Int))) := by simp [W.less?, Num.less?]
      simp [WTm.holds, WTm.value, e] at h2
      by_cases q : (63 : Int) < (ns.length : Int)
      · simp [q] at h2
      · omega
theorem post_true {args ds : List WData} : Challenge.rw_nn0124_01.row.claim.post args (.bool true) ds = true := by
  show (WShape.has [] (.bool true) .bool && WTm.holds [] (.eq .res (.lit (.bool true))) { args := args, res := some (.bool true), after := ds }) = true
  have e : W.same (.bool true) (.bool true) = true := same_self _
  simp [WShape.has, WShape.arms, WTm.holds, WTm.value, e]
theorem ints_read {R : WRecords} {cl : Str → Option Addr} {h : Heap} : ∀ {vs : List Value} {ns : List Int} {as : List Addr}, ReadsAllW R cl h vs (ns.map .int) as → IntsAre vs ns
  | _, [], _, r => by
    obtain ⟨rfl, _⟩ := readsAllW_nil_inv r
    exact .nil
  | _, n :: ns, _, r => by
    rw [List.map_cons] at r
    cases r with
    | cons r1 r2 =>
      cases r1
      exact .cons _ _ (ints_read r2)
theorem law_done {w : World} {cl : Str → Option Addr} {mean : ExcName → Option Value} {mg mb : Str → Option Value} {fa : Addr} {s₁ : Shared} {args : List WData} {vals : List Value} {as : List Addr}
    (g : s₁.heap.Ns mainGlobals mg) (hb : s₁.heap.Ns builtinsNs mb) (nl : s₁.heap.NoLimit) (bi : ∀ x : Str, x ≠ "__name__" → mb x = bootBuiltins x) (hmg : mg (Str.ofString "law") = some (.ref fa)) (hg : s₁.gens = #[])
    (hpre : Challenge.rw_nn0124_01.row.claim.pre args = true) (hrd : ReadsAllW Challenge.rw_nn0124_01.row.records cl s₁.heap vals args as) (KX : (KK w.params).In s₁.heap) :
    wpAny (model P0 w) callerA (call (.ref fa) vals) (fun v s' => GoodWG Challenge.rw_nn0124_01.row.claim cl mean args s₁ (Except.ok (Flow.ret v)) s') (fun e s' => GoodWG Challenge.rw_nn0124_01.row.claim cl mean args s₁ (Except.error e) s') s₁ := by
  obtain rfl : fa = 423 := by
    have := mg_of KX g (g_law w.params)
    rw [hmg] at this
    cases this
    rfl
  obtain ⟨ns, rfl, hln⟩ := pre_open hpre
  obtain ⟨d, ds, a1, a2, e1, rfl, r1, r2⟩ : ∃ v vs a1 a2, vals = v :: vs ∧ as = a1 ++ a2 ∧ ReadsW Challenge.rw_nn0124_01.row.records cl s₁.heap v (.list (ns.map .int)) a1 ∧ ReadsAllW Challenge.rw_nn0124_01.row.records cl s₁.heap vs [] a2 := by
    cases hrd with
    | cons r1 r2 => exact ⟨_, _, _, _, rfl, rfl, r1, r2⟩
  subst e1
  obtain ⟨rfl, rfl⟩ := readsAllW_nil_inv r2
  obtain ⟨l, o, its, n, ai, rfl, ho, hc, hd, ra, rfl⟩ := readsW_list_open r1
  have hi := ints_read ra
  have W : Wd (KK w.params) s₁.heap := ⟨KX, ⟨mg, mb, g, hb, bi⟩, nl⟩
  have S : St s₁.heap (fun a o => s₁.heap.get? a = some o) [] s₁.heap := ⟨fun _ _ e => e, fun _ _ e => e, by simp, by simp, by simp⟩
  have hl : ListF (fun a o => s₁.heap.get? a = some o) l its.toList := ⟨o, ho, hc, n, hd⟩
  have R : Rm callerA 100 := ⟨rfl, rfl, by decide, by decide⟩
  exact law_spec facts_of (b := ⟨s₁.gens, s₁.drawn, s₁.os⟩) (tk := s₁.toks) W R S hl hi (by rw [IntsAre.length hi]; omega) fun I' C' h' tk' S' =>
    ⟨.inl ⟨.bool true, .bool true, [], rfl, fun _ => rfl, .bool true, post_true, fun _ => ⟨.nil, by simp⟩⟩, OldK.of_keep S'.keep, rfl, AllBare.of_eq hg⟩
end
section -- Z1
open PySem PySem.W PyProof.Rows PySem.Calls
set_option maxRecDepth 100000
set_option maxHeartbeats 4000000
theorem tt : PySem.Challenge.rw_nn0124_01.Holds := by
  refine holds_law said0 fun said => ?_
  refine holds_open (q := Q0) (loose := lo0) (Xt := fun s => xlAt Q0 [] s && recOk [] s) (XP := XL Q0 []) (Yf := HK.obs) (Ya := HK.val) (YP := HK.says) (N := 6142) left0 HK.of HK.keeps (fun s e => xl_of s (Bool.and_eq_true_iff.mp e).1) XL.keeps (by rfl) (by rfl) (by rfl) (fun s e => recFacts_of (Bool.and_eq_true_iff.mp e).2) (by rfl) (by assumption) (by decide +kernel) ⟨rfl, rfl, rfl, rfl, rfl, by decide +kernel⟩ ?hw ?hc
  case hw => w_witness2
  unfold WalkO
  intro w s₀ s₁ mg mb G Y fa o pm cd doc dV kV ho hd hcd hD hmg hg args vals as hpre hlay hrd hwl hlo
  have KX := kIn_of (K := KK) (as := KA) Y
  exact law_done G.T.g G.T.b G.T.nolimit G.T.builtins hmg hg hpre hrd KX
end
end Mine
theorem PySem.Challenge.cw_nn0124_01_holds : PySem.Challenge.rw_nn0124_01.Holds :=
  Mine.tt
