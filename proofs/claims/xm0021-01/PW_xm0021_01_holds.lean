import PyProof.Rows.All
import Wide.All
import OpenK.AllK
import Wide.FinOn
import PySem.Challenge.RW_xm0021_01
set_option Elab.async false
set_option linter.all false

section
open PySem PySem.W PyProof.Rows
namespace Mine
open PySem.Spec PySem.Calls
/-! THE HEAD, by hand: the kit's own head lays an olean over the lid. What the top leaves (the objects o0 ..) is printed by a program of mine (GenK) out of the top's run. -/
noncomputable abbrev pw : Program := PySem.Challenge.pw_xm0021_01
/-- the text's statements, by their place -/
noncomputable def st (i : Nat) : Stmt := pw.main.body.getD i (Stmt.Pass ⟨0, 0, 0, 0⟩)
noncomputable def sti (i j : Nat) : Stmt := match st i with
  | .ClassDef _ _ _ b _ _ _ _ _ _ _ => b.getD j (Stmt.Pass ⟨0, 0, 0, 0⟩)
  | s => s
/-- a def's object, its words taken from the statement -/
noncomputable def fnS (s : Stmt) (name qual : Str) (gl : Addr) (clo : List (Str × Addr)) (dV kV doc pm : Value) (an : Option Addr) (cd ct : Value) (bn : Addr) : FuncData := match s with
  | .FunctionDef _ args body _ _ _ scope _ _ _ => { name := name, qualname := qual, params := args, body := .stmts body, scope := scope, globals := gl, closure := clo, defaults := dV, kwdefaults := kV, doc := doc, pyModule := pm, annotations := an, code := cd, closureTuple := ct, builtins := bn }
  | _ => default
noncomputable def o0 (P : Params) : Obj := ⟨(.type "dict"), none, (.dict #[⟨PyData.keyHash P (Str.ofString "__name__"), .str (Str.ofString "__name__") 1, (.str (Str.ofString "builtins") 160)⟩, ⟨PyData.keyHash P (Str.ofString "__doc__"), .str (Str.ofString "__doc__") 2, (.builtin "builtins.__doc__:str#opaque")⟩, ⟨PyData.keyHash P (Str.ofString "__package__"), .str (Str.ofString "__package__") 3, (.builtin "builtins.__package__:str#opaque")⟩, ⟨PyData.keyHash P (Str.ofString "__loader__"), .str (Str.ofString "__loader__") 4, (.builtin "builtins.__loader__:shared#opaque")⟩, ⟨PyData.keyHash P (Str.ofString "__spec__"), .str (Str.ofString "__spec__") 5, (.builtin "builtins.__spec__#opaque")⟩, ⟨PyData.keyHash P (Str.ofString "__build_class__"), .str (Str.ofString "__build_class__") 6, (.builtin "__build_class__")⟩, ⟨PyData.keyHash P (Str.ofString "__import__"), .str (Str.ofString "__import__") 7, (.builtin "__import__")⟩, ⟨PyData.keyHash P (Str.ofString "abs"), .str (Str.ofString "abs") 8, (.builtin "abs")⟩, ⟨PyData.keyHash P (Str.ofString "all"), .str (Str.ofString "all") 9, (.builtin "all")⟩, ⟨PyData.keyHash P (Str.ofString "any"), .str (Str.ofString "any") 10, (.builtin "any")⟩, ⟨PyData.keyHash P (Str.ofString "ascii"), .str (Str.ofString "ascii") 11, (.builtin "ascii")⟩, ⟨PyData.keyHash P (Str.ofString "bin"), .str (Str.ofString "bin") 12, (.builtin "bin")⟩, ⟨PyData.keyHash P (Str.ofString "breakpoint"), .str (Str.ofString "breakpoint") 13, (.builtin "breakpoint")⟩, ⟨PyData.keyHash P (Str.ofString "callable"), .str (Str.ofString "callable") 14, (.builtin "callable")⟩, ⟨PyData.keyHash P (Str.ofString "chr"), .str (Str.ofString "chr") 15, (.builtin "chr")⟩, ⟨PyData.keyHash P (Str.ofString "compile"), .str (Str.ofString "compile") 16, (.builtin "compile")⟩, ⟨PyData.keyHash P (Str.ofString "delattr"), .str (Str.ofString "delattr") 17, (.builtin "delattr")⟩, ⟨PyData.keyHash P (Str.ofString "dir"), .str (Str.ofString "dir") 18, (.builtin "dir")⟩, ⟨PyData.keyHash P (Str.ofString "divmod"), .str (Str.ofString "divmod") 19, (.builtin "divmod")⟩, ⟨PyData.keyHash P (Str.ofString "eval"), .str (Str.ofString "eval") 20, (.builtin "eval")⟩, ⟨PyData.keyHash P (Str.ofString "exec"), .str (Str.ofString "exec") 21, (.builtin "exec")⟩, ⟨PyData.keyHash P (Str.ofString "format"), .str (Str.ofString "format") 22, (.builtin "format")⟩, ⟨PyData.keyHash P (Str.ofString "getattr"), .str (Str.ofString "getattr") 23, (.builtin "getattr")⟩, ⟨PyData.keyHash P (Str.ofString "globals"), .str (Str.ofString "globals") 24, (.builtin "globals")⟩, ⟨PyData.keyHash P (Str.ofString "hasattr"), .str (Str.ofString "hasattr") 25, (.builtin "hasattr")⟩, ⟨PyData.keyHash P (Str.ofString "hash"), .str (Str.ofString "hash") 26, (.builtin "hash")⟩, ⟨PyData.keyHash P (Str.ofString "hex"), .str (Str.ofString "hex") 27, (.builtin "hex")⟩, ⟨PyData.keyHash P (Str.ofString "id"), .str (Str.ofString "id") 28, (.builtin "id")⟩, ⟨PyData.keyHash P (Str.ofString "input"), .str (Str.ofString "input") 29, (.builtin "input")⟩, ⟨PyData.keyHash P (Str.ofString "isinstance"), .str (Str.ofString "isinstance") 30, (.builtin "isinstance")⟩, ⟨PyData.keyHash P (Str.ofString "issubclass"), .str (Str.ofString "issubclass") 31, (.builtin "issubclass")⟩, ⟨PyData.keyHash P (Str.ofString "iter"), .str (Str.ofString "iter") 32, (.builtin "iter")⟩, ⟨PyData.keyHash P (Str.ofString "aiter"), .str (Str.ofString "aiter") 33, (.builtin "aiter")⟩, ⟨PyData.keyHash P (Str.ofString "len"), .str (Str.ofString "len") 34, (.builtin "len")⟩, ⟨PyData.keyHash P (Str.ofString "locals"), .str (Str.ofString "locals") 35, (.builtin "locals")⟩, ⟨PyData.keyHash P (Str.ofString "max"), .str (Str.ofString "max") 36, (.builtin "max")⟩, ⟨PyData.keyHash P (Str.ofString "min"), .str (Str.ofString "min") 37, (.builtin "min")⟩, ⟨PyData.keyHash P (Str.ofString "next"), .str (Str.ofString "next") 38, (.builtin "next")⟩, ⟨PyData.keyHash P (Str.ofString "anext"), .str (Str.ofString "anext") 39, (.builtin "anext")⟩, ⟨PyData.keyHash P (Str.ofString "oct"), .str (Str.ofString "oct") 40, (.builtin "oct")⟩, ⟨PyData.keyHash P (Str.ofString "ord"), .str (Str.ofString "ord") 41, (.builtin "ord")⟩, ⟨PyData.keyHash P (Str.ofString "pow"), .str (Str.ofString "pow") 42, (.builtin "pow")⟩, ⟨PyData.keyHash P (Str.ofString "print"), .str (Str.ofString "print") 43, (.builtin "print")⟩, ⟨PyData.keyHash P (Str.ofString "repr"), .str (Str.ofString "repr") 44, (.builtin "repr")⟩, ⟨PyData.keyHash P (Str.ofString "round"), .str (Str.ofString "round") 45, (.builtin "round")⟩, ⟨PyData.keyHash P (Str.ofString "setattr"), .str (Str.ofString "setattr") 46, (.builtin "setattr")⟩, ⟨PyData.keyHash P (Str.ofString "sorted"), .str (Str.ofString "sorted") 47, (.builtin "sorted")⟩, ⟨PyData.keyHash P (Str.ofString "sum"), .str (Str.ofString "sum") 48, (.builtin "sum")⟩, ⟨PyData.keyHash P (Str.ofString "vars"), .str (Str.ofString "vars") 49, (.builtin "vars")⟩, ⟨PyData.keyHash P (Str.ofString "None"), .str (Str.ofString "None") 50, .none⟩, ⟨PyData.keyHash P (Str.ofString "Ellipsis"), .str (Str.ofString "Ellipsis") 51, .ellipsis⟩, ⟨PyData.keyHash P (Str.ofString "NotImplemented"), .str (Str.ofString "NotImplemented") 52, .notImplemented⟩, ⟨PyData.keyHash P (Str.ofString "False"), .str (Str.ofString "False") 53, (.bool false)⟩, ⟨PyData.keyHash P (Str.ofString "True"), .str (Str.ofString "True") 54, (.bool true)⟩, ⟨PyData.keyHash P (Str.ofString "bool"), .str (Str.ofString "bool") 55, (.type "bool")⟩, ⟨PyData.keyHash P (Str.ofString "memoryview"), .str (Str.ofString "memoryview") 56, (.type "memoryview")⟩, ⟨PyData.keyHash P (Str.ofString "bytearray"), .str (Str.ofString "bytearray") 57, (.type "bytearray")⟩, ⟨PyData.keyHash P (Str.ofString "bytes"), .str (Str.ofString "bytes") 58, (.type "bytes")⟩, ⟨PyData.keyHash P (Str.ofString "classmethod"), .str (Str.ofString "classmethod") 59, (.type "classmethod")⟩, ⟨PyData.keyHash P (Str.ofString "complex"), .str (Str.ofString "complex") 60, (.type "complex")⟩, ⟨PyData.keyHash P (Str.ofString "dict"), .str (Str.ofString "dict") 61, (.type "dict")⟩, ⟨PyData.keyHash P (Str.ofString "enumerate"), .str (Str.ofString "enumerate") 62, (.type "enumerate")⟩, ⟨PyData.keyHash P (Str.ofString "filter"), .str (Str.ofString "filter") 63, (.type "filter")⟩, ⟨PyData.keyHash P (Str.ofString "float"), .str (Str.ofString "float") 64, (.type "float")⟩, ⟨PyData.keyHash P (Str.ofString "frozenset"), .str (Str.ofString "frozenset") 65, (.type "frozenset")⟩, ⟨PyData.keyHash P (Str.ofString "property"), .str (Str.ofString "property") 66, (.type "property")⟩, ⟨PyData.keyHash P (Str.ofString "int"), .str (Str.ofString "int") 67, (.type "int")⟩, ⟨PyData.keyHash P (Str.ofString "list"), .str (Str.ofString "list") 68, (.type "list")⟩, ⟨PyData.keyHash P (Str.ofString "map"), .str (Str.ofString "map") 69, (.type "map")⟩, ⟨PyData.keyHash P (Str.ofString "object"), .str (Str.ofString "object") 70, (.type "object")⟩, ⟨PyData.keyHash P (Str.ofString "range"), .str (Str.ofString "range") 71, (.type "range")⟩, ⟨PyData.keyHash P (Str.ofString "reversed"), .str (Str.ofString "reversed") 72, (.type "reversed")⟩, ⟨PyData.keyHash P (Str.ofString "set"), .str (Str.ofString "set") 73, (.type "set")⟩, ⟨PyData.keyHash P (Str.ofString "slice"), .str (Str.ofString "slice") 74, (.type "slice")⟩, ⟨PyData.keyHash P (Str.ofString "staticmethod"), .str (Str.ofString "staticmethod") 75, (.type "staticmethod")⟩, ⟨PyData.keyHash P (Str.ofString "str"), .str (Str.ofString "str") 76, (.type "str")⟩, ⟨PyData.keyHash P (Str.ofString "super"), .str (Str.ofString "super") 77, (.type "super")⟩, ⟨PyData.keyHash P (Str.ofString "tuple"), .str (Str.ofString "tuple") 78, (.type "tuple")⟩, ⟨PyData.keyHash P (Str.ofString "type"), .str (Str.ofString "type") 79, (.type "type")⟩, ⟨PyData.keyHash P (Str.ofString "zip"), .str (Str.ofString "zip") 80, (.type "zip")⟩, ⟨PyData.keyHash P (Str.ofString "__debug__"), .str (Str.ofString "__debug__") 81, (.bool true)⟩, ⟨PyData.keyHash P (Str.ofString "BaseException"), .str (Str.ofString "BaseException") 82, (.type "BaseException")⟩, ⟨PyData.keyHash P (Str.ofString "BaseExceptionGroup"), .str (Str.ofString "BaseExceptionGroup") 83, (.type "BaseExceptionGroup")⟩, ⟨PyData.keyHash P (Str.ofString "Exception"), .str (Str.ofString "Exception") 84, (.type "Exception")⟩, ⟨PyData.keyHash P (Str.ofString "GeneratorExit"), .str (Str.ofString "GeneratorExit") 85, (.type "GeneratorExit")⟩, ⟨PyData.keyHash P (Str.ofString "KeyboardInterrupt"), .str (Str.ofString "KeyboardInterrupt") 86, (.type "KeyboardInterrupt")⟩, ⟨PyData.keyHash P (Str.ofString "SystemExit"), .str (Str.ofString "SystemExit") 87, (.type "SystemExit")⟩, ⟨PyData.keyHash P (Str.ofString "ArithmeticError"), .str (Str.ofString "ArithmeticError") 88, (.type "ArithmeticError")⟩, ⟨PyData.keyHash P (Str.ofString "AssertionError"), .str (Str.ofString "AssertionError") 89, (.type "AssertionError")⟩, ⟨PyData.keyHash P (Str.ofString "AttributeError"), .str (Str.ofString "AttributeError") 90, (.type "AttributeError")⟩, ⟨PyData.keyHash P (Str.ofString "BufferError"), .str (Str.ofString "BufferError") 91, (.type "BufferError")⟩, ⟨PyData.keyHash P (Str.ofString "EOFError"), .str (Str.ofString "EOFError") 92, (.type "EOFError")⟩, ⟨PyData.keyHash P (Str.ofString "ImportError"), .str (Str.ofString "ImportError") 93, (.type "ImportError")⟩, ⟨PyData.keyHash P (Str.ofString "LookupError"), .str (Str.ofString "LookupError") 94, (.type "LookupError")⟩, ⟨PyData.keyHash P (Str.ofString "MemoryError"), .str (Str.ofString "MemoryError") 95, (.type "MemoryError")⟩, ⟨PyData.keyHash P (Str.ofString "NameError"), .str (Str.ofString "NameError") 96, (.type "NameError")⟩, ⟨PyData.keyHash P (Str.ofString "OSError"), .str (Str.ofString "OSError") 97, (.type "OSError")⟩, ⟨PyData.keyHash P (Str.ofString "ReferenceError"), .str (Str.ofString "ReferenceError") 98, (.type "ReferenceError")⟩, ⟨PyData.keyHash P (Str.ofString "RuntimeError"), .str (Str.ofString "RuntimeError") 99, (.type "RuntimeError")⟩, ⟨PyData.keyHash P (Str.ofString "StopAsyncIteration"), .str (Str.ofString "StopAsyncIteration") 100, (.type "StopAsyncIteration")⟩, ⟨PyData.keyHash P (Str.ofString "StopIteration"), .str (Str.ofString "StopIteration") 101, (.type "StopIteration")⟩, ⟨PyData.keyHash P (Str.ofString "SyntaxError"), .str (Str.ofString "SyntaxError") 102, (.type "SyntaxError")⟩, ⟨PyData.keyHash P (Str.ofString "SystemError"), .str (Str.ofString "SystemError") 103, (.type "SystemError")⟩, ⟨PyData.keyHash P (Str.ofString "TypeError"), .str (Str.ofString "TypeError") 104, (.type "TypeError")⟩, ⟨PyData.keyHash P (Str.ofString "ValueError"), .str (Str.ofString "ValueError") 105, (.type "ValueError")⟩, ⟨PyData.keyHash P (Str.ofString "Warning"), .str (Str.ofString "Warning") 106, (.type "Warning")⟩, ⟨PyData.keyHash P (Str.ofString "FloatingPointError"), .str (Str.ofString "FloatingPointError") 107, (.type "FloatingPointError")⟩, ⟨PyData.keyHash P (Str.ofString "OverflowError"), .str (Str.ofString "OverflowError") 108, (.type "OverflowError")⟩, ⟨PyData.keyHash P (Str.ofString "ZeroDivisionError"), .str (Str.ofString "ZeroDivisionError") 109, (.type "ZeroDivisionError")⟩, ⟨PyData.keyHash P (Str.ofString "BytesWarning"), .str (Str.ofString "BytesWarning") 110, (.type "BytesWarning")⟩, ⟨PyData.keyHash P (Str.ofString "DeprecationWarning"), .str (Str.ofString "DeprecationWarning") 111, (.type "DeprecationWarning")⟩, ⟨PyData.keyHash P (Str.ofString "EncodingWarning"), .str (Str.ofString "EncodingWarning") 112, (.type "EncodingWarning")⟩, ⟨PyData.keyHash P (Str.ofString "FutureWarning"), .str (Str.ofString "FutureWarning") 113, (.type "FutureWarning")⟩, ⟨PyData.keyHash P (Str.ofString "ImportWarning"), .str (Str.ofString "ImportWarning") 114, (.type "ImportWarning")⟩, ⟨PyData.keyHash P (Str.ofString "PendingDeprecationWarning"), .str (Str.ofString "PendingDeprecationWarning") 115, (.type "PendingDeprecationWarning")⟩, ⟨PyData.keyHash P (Str.ofString "ResourceWarning"), .str (Str.ofString "ResourceWarning") 116, (.type "ResourceWarning")⟩, ⟨PyData.keyHash P (Str.ofString "RuntimeWarning"), .str (Str.ofString "RuntimeWarning") 117, (.type "RuntimeWarning")⟩, ⟨PyData.keyHash P (Str.ofString "SyntaxWarning"), .str (Str.ofString "SyntaxWarning") 118, (.type "SyntaxWarning")⟩, ⟨PyData.keyHash P (Str.ofString "UnicodeWarning"), .str (Str.ofString "UnicodeWarning") 119, (.type "UnicodeWarning")⟩, ⟨PyData.keyHash P (Str.ofString "UserWarning"), .str (Str.ofString "UserWarning") 120, (.type "UserWarning")⟩, ⟨PyData.keyHash P (Str.ofString "BlockingIOError"), .str (Str.ofString "BlockingIOError") 121, (.type "BlockingIOError")⟩, ⟨PyData.keyHash P (Str.ofString "ChildProcessError"), .str (Str.ofString "ChildProcessError") 122, (.type "ChildProcessError")⟩, ⟨PyData.keyHash P (Str.ofString "ConnectionError"), .str (Str.ofString "ConnectionError") 123, (.type "ConnectionError")⟩, ⟨PyData.keyHash P (Str.ofString "FileExistsError"), .str (Str.ofString "FileExistsError") 124, (.type "FileExistsError")⟩, ⟨PyData.keyHash P (Str.ofString "FileNotFoundError"), .str (Str.ofString "FileNotFoundError") 125, (.type "FileNotFoundError")⟩, ⟨PyData.keyHash P (Str.ofString "InterruptedError"), .str (Str.ofString "InterruptedError") 126, (.type "InterruptedError")⟩, ⟨PyData.keyHash P (Str.ofString "IsADirectoryError"), .str (Str.ofString "IsADirectoryError") 127, (.type "IsADirectoryError")⟩, ⟨PyData.keyHash P (Str.ofString "NotADirectoryError"), .str (Str.ofString "NotADirectoryError") 128, (.type "NotADirectoryError")⟩, ⟨PyData.keyHash P (Str.ofString "PermissionError"), .str (Str.ofString "PermissionError") 129, (.type "PermissionError")⟩, ⟨PyData.keyHash P (Str.ofString "ProcessLookupError"), .str (Str.ofString "ProcessLookupError") 130, (.type "ProcessLookupError")⟩, ⟨PyData.keyHash P (Str.ofString "TimeoutError"), .str (Str.ofString "TimeoutError") 131, (.type "TimeoutError")⟩, ⟨PyData.keyHash P (Str.ofString "IndentationError"), .str (Str.ofString "IndentationError") 132, (.type "IndentationError")⟩, ⟨PyData.keyHash P (Str.ofString "_IncompleteInputError"), .str (Str.ofString "_IncompleteInputError") 133, (.type "_IncompleteInputError")⟩, ⟨PyData.keyHash P (Str.ofString "IndexError"), .str (Str.ofString "IndexError") 134, (.type "IndexError")⟩, ⟨PyData.keyHash P (Str.ofString "KeyError"), .str (Str.ofString "KeyError") 135, (.type "KeyError")⟩, ⟨PyData.keyHash P (Str.ofString "ModuleNotFoundError"), .str (Str.ofString "ModuleNotFoundError") 136, (.type "ModuleNotFoundError")⟩, ⟨PyData.keyHash P (Str.ofString "NotImplementedError"), .str (Str.ofString "NotImplementedError") 137, (.type "NotImplementedError")⟩, ⟨PyData.keyHash P (Str.ofString "PythonFinalizationError"), .str (Str.ofString "PythonFinalizationError") 138, (.type "PythonFinalizationError")⟩, ⟨PyData.keyHash P (Str.ofString "RecursionError"), .str (Str.ofString "RecursionError") 139, (.type "RecursionError")⟩, ⟨PyData.keyHash P (Str.ofString "UnboundLocalError"), .str (Str.ofString "UnboundLocalError") 140, (.type "UnboundLocalError")⟩, ⟨PyData.keyHash P (Str.ofString "UnicodeError"), .str (Str.ofString "UnicodeError") 141, (.type "UnicodeError")⟩, ⟨PyData.keyHash P (Str.ofString "BrokenPipeError"), .str (Str.ofString "BrokenPipeError") 142, (.type "BrokenPipeError")⟩, ⟨PyData.keyHash P (Str.ofString "ConnectionAbortedError"), .str (Str.ofString "ConnectionAbortedError") 143, (.type "ConnectionAbortedError")⟩, ⟨PyData.keyHash P (Str.ofString "ConnectionRefusedError"), .str (Str.ofString "ConnectionRefusedError") 144, (.type "ConnectionRefusedError")⟩, ⟨PyData.keyHash P (Str.ofString "ConnectionResetError"), .str (Str.ofString "ConnectionResetError") 145, (.type "ConnectionResetError")⟩, ⟨PyData.keyHash P (Str.ofString "TabError"), .str (Str.ofString "TabError") 146, (.type "TabError")⟩, ⟨PyData.keyHash P (Str.ofString "UnicodeDecodeError"), .str (Str.ofString "UnicodeDecodeError") 147, (.type "UnicodeDecodeError")⟩, ⟨PyData.keyHash P (Str.ofString "UnicodeEncodeError"), .str (Str.ofString "UnicodeEncodeError") 148, (.type "UnicodeEncodeError")⟩, ⟨PyData.keyHash P (Str.ofString "UnicodeTranslateError"), .str (Str.ofString "UnicodeTranslateError") 149, (.type "UnicodeTranslateError")⟩, ⟨PyData.keyHash P (Str.ofString "ExceptionGroup"), .str (Str.ofString "ExceptionGroup") 150, (.type "ExceptionGroup")⟩, ⟨PyData.keyHash P (Str.ofString "EnvironmentError"), .str (Str.ofString "EnvironmentError") 151, (.type "OSError")⟩, ⟨PyData.keyHash P (Str.ofString "IOError"), .str (Str.ofString "IOError") 152, (.type "OSError")⟩, ⟨PyData.keyHash P (Str.ofString "open"), .str (Str.ofString "open") 153, (.builtin "open")⟩, ⟨PyData.keyHash P (Str.ofString "quit"), .str (Str.ofString "quit") 154, (.builtin "builtins.quit#opaque")⟩, ⟨PyData.keyHash P (Str.ofString "exit"), .str (Str.ofString "exit") 155, (.builtin "builtins.exit#opaque")⟩, ⟨PyData.keyHash P (Str.ofString "copyright"), .str (Str.ofString "copyright") 156, (.builtin "builtins.copyright#opaque")⟩, ⟨PyData.keyHash P (Str.ofString "credits"), .str (Str.ofString "credits") 157, (.builtin "builtins.credits#opaque")⟩, ⟨PyData.keyHash P (Str.ofString "license"), .str (Str.ofString "license") 158, (.builtin "builtins.license#opaque")⟩, ⟨PyData.keyHash P (Str.ofString "help"), .str (Str.ofString "help") 159, (.builtin "builtins.help#opaque")⟩] 159), #[]⟩
noncomputable def o1 (P : Params) : Obj := ⟨(.type "dict"), none, (.dict #[⟨PyData.keyHash P (Str.ofString "builtins"), .str (Str.ofString "builtins") 162, (.ref 4)⟩, ⟨PyData.keyHash P (Str.ofString "__main__"), .str (Str.ofString "__main__") 163, (.ref 5)⟩] 2), #[]⟩
noncomputable def o2 (P : Params) : Obj := ⟨.none, none, (.dict #[⟨PyData.keyHash P (Str.ofString "type.__subclasses__.Exception.0"), .str (Str.ofString "type.__subclasses__.Exception.0") 223, (.int 34 0)⟩, ⟨PyData.keyHash P (Str.ofString "type.__subclasses__.Exception.n"), .str (Str.ofString "type.__subclasses__.Exception.n") 224, (.int 1 0)⟩] 2), #[]⟩
noncomputable def o3 (P : Params) : Obj := ⟨(.type "dict"), none, (.dict #[⟨PyData.keyHash P (Str.ofString "__name__"), .str (Str.ofString "__name__") 165, (.str (Str.ofString "law_xm0021_01") 751)⟩, ⟨PyData.keyHash P (Str.ofString "__doc__"), .str (Str.ofString "__doc__") 166, .none⟩, ⟨PyData.keyHash P (Str.ofString "__package__"), .str (Str.ofString "__package__") 167, .none⟩, ⟨PyData.keyHash P (Str.ofString "__loader__"), .str (Str.ofString "__loader__") 168, (.builtin "__main__.__loader__#opaque")⟩, ⟨PyData.keyHash P (Str.ofString "__spec__"), .str (Str.ofString "__spec__") 169, .none⟩, ⟨PyData.keyHash P (Str.ofString "__annotations__"), .str (Str.ofString "__annotations__") 170, (.ref 6)⟩, ⟨PyData.keyHash P (Str.ofString "__builtins__"), .str (Str.ofString "__builtins__") 171, (.ref 4)⟩, ⟨PyData.keyHash P (Str.ofString "__file__"), .str (Str.ofString "__file__") 173, (.str (Str.ofString "/claim/cut.py") 172)⟩, ⟨PyData.keyHash P (Str.ofString "__cached__"), .str (Str.ofString "__cached__") 174, .none⟩, ⟨PyData.keyHash P (Str.ofString "MOST_TEXT"), .str (Str.ofString "MOST_TEXT") 190, (.int 255 189)⟩, ⟨PyData.keyHash P (Str.ofString "MOST_EXPONENT"), .str (Str.ofString "MOST_EXPONENT") 192, (.int 99 191)⟩, ⟨PyData.keyHash P (Str.ofString "BasicError"), .str (Str.ofString "BasicError") 226, (.ref 34)⟩, ⟨PyData.keyHash P (Str.ofString "kind_of"), .str (Str.ofString "kind_of") 233, (.ref 44)⟩, ⟨PyData.keyHash P (Str.ofString "figures_of"), .str (Str.ofString "figures_of") 242, (.ref 51)⟩, ⟨PyData.keyHash P (Str.ofString "rounded_by"), .str (Str.ofString "rounded_by") 253, (.ref 58)⟩, ⟨PyData.keyHash P (Str.ofString "made"), .str (Str.ofString "made") 265, (.ref 65)⟩, ⟨PyData.keyHash P (Str.ofString "whole_near"), .str (Str.ofString "whole_near") 275, (.ref 72)⟩, ⟨PyData.keyHash P (Str.ofString "fits"), .str (Str.ofString "fits") 283, (.ref 79)⟩, ⟨PyData.keyHash P (Str.ofString "whole_of"), .str (Str.ofString "whole_of") 292, (.ref 86)⟩, ⟨PyData.keyHash P (Str.ofString "decimal_of"), .str (Str.ofString "decimal_of") 300, (.ref 93)⟩, ⟨PyData.keyHash P (Str.ofString "checked_text"), .str (Str.ofString "checked_text") 307, (.ref 100)⟩, ⟨PyData.keyHash P (Str.ofString "truth"), .str (Str.ofString "truth") 314, (.ref 107)⟩, ⟨PyData.keyHash P (Str.ofString "ONE"), .str (Str.ofString "ONE") 319, (.ref 108)⟩, ⟨PyData.keyHash P (Str.ofString "MOST_POWER"), .str (Str.ofString "MOST_POWER") 321, (.int 9999 320)⟩, ⟨PyData.keyHash P (Str.ofString "d_negated"), .str (Str.ofString "d_negated") 328, (.ref 115)⟩, ⟨PyData.keyHash P (Str.ofString "alike"), .str (Str.ofString "alike") 337, (.ref 122)⟩, ⟨PyData.keyHash P (Str.ofString "d_add"), .str (Str.ofString "d_add") 349, (.ref 129)⟩, ⟨PyData.keyHash P (Str.ofString "d_sub"), .str (Str.ofString "d_sub") 358, (.ref 136)⟩, ⟨PyData.keyHash P (Str.ofString "d_mul"), .str (Str.ofString "d_mul") 367, (.ref 143)⟩, ⟨PyData.keyHash P (Str.ofString "with_rest"), .str (Str.ofString "with_rest") 376, (.ref 150)⟩, ⟨PyData.keyHash P (Str.ofString "d_div"), .str (Str.ofString "d_div") 390, (.ref 157)⟩, ⟨PyData.keyHash P (Str.ofString "d_compare"), .str (Str.ofString "d_compare") 401, (.ref 164)⟩, ⟨PyData.keyHash P (Str.ofString "d_power"), .str (Str.ofString "d_power") 413, (.ref 171)⟩, ⟨PyData.keyHash P (Str.ofString "square_or_end"), .str (Str.ofString "square_or_end") 421, (.ref 178)⟩, ⟨PyData.keyHash P (Str.ofString "is_whole"), .str (Str.ofString "is_whole") 430, (.ref 185)⟩, ⟨PyData.keyHash P (Str.ofString "settled"), .str (Str.ofString "settled") 439, (.ref 192)⟩, ⟨PyData.keyHash P (Str.ofString "whole_reckoned"), .str (Str.ofString "whole_reckoned") 450, (.ref 199)⟩, ⟨PyData.keyHash P (Str.ofString "cut_quotient"), .str (Str.ofString "cut_quotient") 459, (.ref 206)⟩, ⟨PyData.keyHash P (Str.ofString "cut_rest"), .str (Str.ofString "cut_rest") 467, (.ref 213)⟩, ⟨PyData.keyHash P (Str.ofString "exponent_of"), .str (Str.ofString "exponent_of") 474, (.ref 220)⟩, ⟨PyData.keyHash P (Str.ofString "whole_power"), .str (Str.ofString "whole_power") 484, (.ref 227)⟩, ⟨PyData.keyHash P (Str.ofString "raised"), .str (Str.ofString "raised") 495, (.ref 234)⟩, ⟨PyData.keyHash P (Str.ofString "reckoned"), .str (Str.ofString "reckoned") 511, (.ref 241)⟩, ⟨PyData.keyHash P (Str.ofString "negated"), .str (Str.ofString "negated") 520, (.ref 248)⟩, ⟨PyData.keyHash P (Str.ofString "order_of"), .str (Str.ofString "order_of") 528, (.ref 255)⟩, ⟨PyData.keyHash P (Str.ofString "inverted"), .str (Str.ofString "inverted") 536, (.ref 262)⟩, ⟨PyData.keyHash P (Str.ofString "logic"), .str (Str.ofString "logic") 548, (.ref 269)⟩, ⟨PyData.keyHash P (Str.ofString "parts_of_tree"), .str (Str.ofString "parts_of_tree") 557, (.ref 276)⟩, ⟨PyData.keyHash P (Str.ofString "LOGIC"), .str (Str.ofString "LOGIC") 565, (.ref 277)⟩, ⟨PyData.keyHash P (Str.ofString "COMPARISONS"), .str (Str.ofString "COMPARISONS") 572, (.ref 278)⟩, ⟨PyData.keyHash P (Str.ofString "order_of_texts"), .str (Str.ofString "order_of_texts") 580, (.ref 285)⟩, ⟨PyData.keyHash P (Str.ofString "compared"), .str (Str.ofString "compared") 588, (.ref 292)⟩, ⟨PyData.keyHash P (Str.ofString "worth_of_texts"), .str (Str.ofString "worth_of_texts") 597, (.ref 299)⟩, ⟨PyData.keyHash P (Str.ofString "worth_of_two"), .str (Str.ofString "worth_of_two") 603, (.ref 304)⟩, ⟨PyData.keyHash P (Str.ofString "worth_of_one"), .str (Str.ofString "worth_of_one") 613, (.ref 311)⟩, ⟨PyData.keyHash P (Str.ofString "worth_of_leaf"), .str (Str.ofString "worth_of_leaf") 624, (.ref 318)⟩, ⟨PyData.keyHash P (Str.ofString "worth_of_tree"), .str (Str.ofString "worth_of_tree") 634, (.ref 325)⟩, ⟨PyData.keyHash P (Str.ofString "worth"), .str (Str.ofString "worth") 640, (.ref 330)⟩, ⟨PyData.keyHash P (Str.ofString "LEAVES"), .str (Str.ofString "LEAVES") 646, (.ref 331)⟩, ⟨PyData.keyHash P (Str.ofString "leaf_order"), .str (Str.ofString "leaf_order") 655, (.ref 338)⟩, ⟨PyData.keyHash P (Str.ofString "expression_orders"), .str (Str.ofString "expression_orders") 668, (.ref 345)⟩, ⟨PyData.keyHash P (Str.ofString "PlainHooks"), .str (Str.ofString "PlainHooks") 750, (.ref 397)⟩, ⟨PyData.keyHash P (Str.ofString "_law_got"), .str (Str.ofString "_law_got") 761, (.ref 408)⟩, ⟨PyData.keyHash P (Str.ofString "_law_drawn_tree"), .str (Str.ofString "_law_drawn_tree") 767, (.ref 413)⟩, ⟨PyData.keyHash P (Str.ofString "_law_exchanged"), .str (Str.ofString "_law_exchanged") 777, (.ref 420)⟩, ⟨PyData.keyHash P (Str.ofString "_law_need"), .str (Str.ofString "_law_need") 784, (.ref 427)⟩, ⟨PyData.keyHash P (Str.ofString "_law_strahler"), .str (Str.ofString "_law_strahler") 793, (.ref 434)⟩, ⟨PyData.keyHash P (Str.ofString "_law_names"), .str (Str.ofString "_law_names") 800, (.ref 441)⟩, ⟨PyData.keyHash P (Str.ofString "_law_done"), .str (Str.ofString "_law_done") 812, (.ref 448)⟩, ⟨PyData.keyHash P (Str.ofString "law"), .str (Str.ofString "law") 818, (.ref 453)⟩] 70), #[]⟩
noncomputable def o4 (P : Params) : Obj := ⟨(.type "module"), (some 0), .plain, #[]⟩
noncomputable def o5 (P : Params) : Obj := ⟨(.type "module"), (some 3), .plain, #[]⟩
noncomputable def o6 (P : Params) : Obj := ⟨(.type "dict"), none, (.dict #[] 0), #[]⟩
noncomputable def o7 (P : Params) : Obj := ⟨(.type "tuple"), none, (.seq #[] 0), #[]⟩
noncomputable def o8 (P : Params) : Obj := ⟨.none, none, (.fields #[]), #[]⟩
noncomputable def o9 (P : Params) : Obj := ⟨(.type "code"), none, (.fields #[(.str (Str.ofString "<module>") 176), (.str (Str.ofString "<module>") 177), (.str (Str.ofString "/claim/cut.py") 178), (.int 1 0), (.int 0 0), (.int 0 0), (.int 0 0), (.int 0 0), (.ref 7), (.bool false), (.int 175 0), (.ref 8), .none, .none, .none, .none, (.int 179 0), (.int 1 0), (.str (Str.ofString "/claim/cut.py") 180)]), #[]⟩
noncomputable def o10 (P : Params) : Obj := ⟨(.type "frame"), none, .plain, #[(some (.ref 9)), (some (.ref 3)), (some (.ref 3)), none, (some (.str (Str.ofString "__main__") 164)), none, (some (.ref 0))]⟩
noncomputable def o11 (P : Params) : Obj := ⟨(.type "tuple"), none, (.seq #[] 0), #[]⟩
noncomputable def o12 (P : Params) : Obj := ⟨.none, none, (.fields #[(.int 4 0), (.int 0 0), (.ref 21), (.int 10 0), (.int 0 0), (.ref 43), (.int 14 0), (.int 0 0), (.ref 50), (.int 20 0), (.int 0 0), (.ref 57), (.int 30 0), (.int 0 0), (.ref 64), (.int 45 0), (.int 0 0), (.ref 71), (.int 51 0), (.int 0 0), (.ref 78), (.int 53 0), (.int 0 0), (.ref 85), (.int 60 0), (.int 0 0), (.ref 92), (.int 64 0), (.int 0 0), (.ref 99), (.int 68 0), (.int 0 0), (.ref 106), (.int 73 0), (.int 0 0), (.ref 114), (.int 75 0), (.int 0 0), (.ref 121), (.int 78 0), (.int 0 0), (.ref 128), (.int 81 0), (.int 0 0), (.ref 135), (.int 83 0), (.int 0 0), (.ref 142), (.int 85 0), (.int 0 0), (.ref 149), (.int 87 0), (.int 0 0), (.ref 156), (.int 95 0), (.int 0 0), (.ref 163), (.int 98 0), (.int 0 0), (.ref 170), (.int 112 0), (.int 0 0), (.ref 177), (.int 115 0), (.int 0 0), (.ref 184), (.int 119 0), (.int 0 0), (.ref 191), (.int 121 0), (.int 0 0), (.ref 198), (.int 125 0), (.int 0 0), (.ref 205), (.int 130 0), (.int 0 0), (.ref 212), (.int 132 0), (.int 0 0), (.ref 219), (.int 138 0), (.int 0 0), (.ref 226), (.int 144 0), (.int 0 0), (.ref 233), (.int 149 0), (.int 0 0), (.ref 240), (.int 164 0), (.int 0 0), (.ref 247), (.int 166 0), (.int 0 0), (.ref 254), (.int 172 0), (.int 0 0), (.ref 261), (.int 174 0), (.int 0 0), (.ref 268), (.int 184 0), (.int 0 0), (.ref 275), (.int 193 0), (.int 0 0), (.ref 284), (.int 195 0), (.int 0 0), (.ref 291), (.int 201 0), (.int 0 0), (.ref 298), (.int 207 0), (.int 0 0), (.ref 303), (.int 218 0), (.int 0 0), (.ref 310), (.int 222 0), (.int 0 0), (.ref 317), (.int 227 0), (.int 0 0), (.ref 324), (.int 240 0), (.int 0 0), (.ref 329), (.int 255 0), (.int 0 0), (.ref 337), (.int 260 0), (.int 0 0), (.ref 344), (.int 281 0), (.int 0 0), (.ref 351), (.int 311 0), (.int 0 0), (.ref 407), (.int 315 0), (.int 0 0), (.ref 412), (.int 322 0), (.int 0 0), (.ref 419), (.int 330 0), (.int 0 0), (.ref 426), (.int 332 0), (.int 0 0), (.ref 433), (.int 339 0), (.int 0 0), (.ref 440), (.int 341 0), (.int 0 0), (.ref 447), (.int 351 0), (.int 0 0), (.ref 452)]), #[]⟩
noncomputable def o13 (P : Params) : Obj := ⟨(.type "code"), none, (.fields #[(.str (Str.ofString "<module>") 182), (.str (Str.ofString "<module>") 183), (.str (Str.ofString "/claim/cut.py") 184), (.int 1 0), (.int 0 0), (.int 0 0), (.int 0 0), (.int 0 0), (.ref 11), (.bool false), (.int 181 0), (.ref 12), .none, .none, .none, .none, (.int 185 0), (.int 1 0), (.str (Str.ofString "/claim/cut.py") 186)]), #[]⟩
noncomputable def o14 (P : Params) : Obj := ⟨(.type "frame"), none, .plain, #[(some (.ref 13)), (some (.ref 3)), (some (.ref 3)), none, (some (.str (Str.ofString "__main__") 164)), none, (some (.ref 0))]⟩
noncomputable def o15 (P : Params) : Obj := ⟨(.type "tuple"), none, (.seq #[(.type "Exception")] 0), #[]⟩
noncomputable def o16 (P : Params) : Obj := ⟨(.type "builtin_function_or_method"), none, (.fields #[(.builtin "type.__prepare__"), (.type "type")]), #[]⟩
noncomputable def o17 (P : Params) : Obj := ⟨(.type "dict"), none, (.dict #[⟨PyData.keyHash P (Str.ofString "__module__"), .str (Str.ofString "__module__") 200, (.str (Str.ofString "basicplus.values") 187)⟩, ⟨PyData.keyHash P (Str.ofString "__qualname__"), .str (Str.ofString "__qualname__") 202, (.str (Str.ofString "BasicError") 201)⟩, ⟨PyData.keyHash P (Str.ofString "__firstlineno__"), .str (Str.ofString "__firstlineno__") 204, (.int 4 203)⟩, ⟨PyData.keyHash P (Str.ofString "__init__"), .str (Str.ofString "__init__") 215, (.ref 31)⟩, ⟨PyData.keyHash P (Str.ofString "__static_attributes__"), .str (Str.ofString "__static_attributes__") 218, (.ref 32)⟩, ⟨PyData.keyHash P (Str.ofString "__classcell__"), .str (Str.ofString "__classcell__") 219, (.ref 18)⟩] 6), #[]⟩
noncomputable def o18 (P : Params) : Obj := ⟨(.type "cell"), none, (.cell (some (.ref 34))), #[]⟩
noncomputable def o19 (P : Params) : Obj := ⟨(.type "tuple"), none, (.seq #[] 0), #[]⟩
noncomputable def o20 (P : Params) : Obj := ⟨.none, none, (.fields #[(.int 6 0), (.int 4 0), (.ref 30)]), #[]⟩
noncomputable def o21 (P : Params) : Obj := ⟨(.type "code"), none, (.fields #[(.str (Str.ofString "BasicError") 195), (.str (Str.ofString "BasicError") 196), (.str (Str.ofString "/claim/cut.py") 197), (.int 4 0), (.int 0 0), (.int 0 0), (.int 0 0), (.int 0 0), (.ref 19), (.bool false), (.int 181 0), (.ref 20), .none, .none, .none, .none, (.int 198 0), (.int 4 0), (.str (Str.ofString "/claim/cut.py") 199)]), #[]⟩
noncomputable def o22 (P : Params) : Obj := ⟨(.type "frame"), none, .plain, #[(some (.ref 21)), (some (.ref 3)), (some (.ref 17)), none, (some (.str (Str.ofString "basicplus.values") 187)), none, (some (.ref 0))]⟩
noncomputable def o23 (P : Params) : Obj := ⟨(.type "tuple"), none, (.seq #[(.str (Str.ofString "") 205)] 0), #[]⟩
noncomputable def o24 (P : Params) : Obj := ⟨(.type "tuple"), none, (.seq #[(.ref 18)] 0), #[]⟩
noncomputable def o25 (P : Params) : Obj := ⟨(.type "tuple"), none, (.seq #[(.str (Str.ofString "__class__") 209)] 0), #[]⟩
noncomputable def o26 (P : Params) : Obj := ⟨.none, none, (.fields #[]), #[]⟩
noncomputable def o27 (P : Params) : Obj := ⟨(.type "tuple"), none, (.seq #[(.str (Str.ofString "self") 210), (.str (Str.ofString "code") 211), (.str (Str.ofString "told") 212)] 0), #[]⟩
noncomputable def o28 (P : Params) : Obj := ⟨(.type "tuple"), none, (.seq #[] 0), #[]⟩
noncomputable def o29 (P : Params) : Obj := ⟨.none, none, (.func (fnS (sti 3 0) (Str.ofString "__init__") (Str.ofString "BasicError.__init__") 0 [] .none .none .none .none none .none .none 0)), #[]⟩
noncomputable def o30 (P : Params) : Obj := ⟨(.type "code"), none, (.fields #[(.str (Str.ofString "__init__") 206), (.str (Str.ofString "BasicError.__init__") 207), (.str (Str.ofString "/claim/cut.py") 208), (.int 6 0), (.int 3 0), (.int 0 0), (.int 0 0), (.int 3 0), (.ref 25), (.bool true), (.int 181 0), (.ref 26), .none, (.ref 27), (.ref 28), (.ref 29), (.int 213 0), (.int 6 0), (.str (Str.ofString "/claim/cut.py") 214)]), #[]⟩
noncomputable def o31 (P : Params) : Obj := ⟨(.type "function"), none, (.func (fnS (sti 3 0) (Str.ofString "__init__") (Str.ofString "BasicError.__init__") 3 [((Str.ofString "__class__"), 18)] (.ref 23) .none .none (.str (Str.ofString "basicplus.values") 187) none (.ref 30) (.ref 24) 0)), #[]⟩
noncomputable def o32 (P : Params) : Obj := ⟨(.type "tuple"), none, (.seq #[(.str (Str.ofString "code") 216), (.str (Str.ofString "told") 217)] 0), #[]⟩
noncomputable def o33 (P : Params) : Obj := ⟨(.type "dict"), none, (.dict #[⟨PyData.keyHash P (Str.ofString "__module__"), .str (Str.ofString "__module__") 200, (.str (Str.ofString "basicplus.values") 187)⟩, ⟨PyData.keyHash P (Str.ofString "__firstlineno__"), .str (Str.ofString "__firstlineno__") 204, (.int 4 203)⟩, ⟨PyData.keyHash P (Str.ofString "__init__"), .str (Str.ofString "__init__") 215, (.ref 31)⟩, ⟨PyData.keyHash P (Str.ofString "__static_attributes__"), .str (Str.ofString "__static_attributes__") 218, (.ref 32)⟩, ⟨PyData.keyHash P (Str.ofString "__weakref__"), .str (Str.ofString "__weakref__") 221, (.ref 35)⟩, ⟨PyData.keyHash P (Str.ofString "__doc__"), .str (Str.ofString "__doc__") 222, .none⟩] 4), #[]⟩
noncomputable def o34 (P : Params) : Obj := ⟨(.type "type"), none, (.cls { name := (Str.ofString "BasicError"), bases := [(.type "Exception")], mro := [(.ref 34), (.type "Exception"), (.type "BaseException"), (.type "object")], ns := 33, qualname := (Str.ofString "BasicError"), hasDict := true, slotNames := [], subclasses := [], abstract := false, collection := none, hasDel := false }), #[(some (.ref 15)), none, (some (.str (Str.ofString "BasicError") 193)), (some (.str (Str.ofString "BasicError") 201)), (some (.builtin "Exception.__new__")), (some (.bool true))]⟩
noncomputable def o35 (P : Params) : Obj := ⟨(.type "getset_descriptor"), none, (.fields #[(.str (Str.ofString "__weakref__") 220), (.ref 34), (.builtin "ExceptionGroup.__weakref__"), .none]), #[]⟩
noncomputable def o36 (P : Params) : Obj := ⟨(.type "super"), none, (.fields #[(.ref 34), (.ref 34), (.ref 34)]), #[]⟩
noncomputable def o37 (P : Params) : Obj := ⟨(.type "builtin_function_or_method"), none, (.fields #[(.builtin "object.__init_subclass__"), (.ref 34)]), #[]⟩
noncomputable def o38 (P : Params) : Obj := ⟨(.type "tuple"), none, (.seq #[] 0), #[]⟩
noncomputable def o39 (P : Params) : Obj := ⟨.none, none, (.fields #[]), #[]⟩
noncomputable def o40 (P : Params) : Obj := ⟨(.type "tuple"), none, (.seq #[(.str (Str.ofString "value") 230)] 0), #[]⟩
noncomputable def o41 (P : Params) : Obj := ⟨(.type "tuple"), none, (.seq #[] 0), #[]⟩
noncomputable def o42 (P : Params) : Obj := ⟨.none, none, (.func (fnS (st 4) (Str.ofString "kind_of") (Str.ofString "kind_of") 0 [] .none .none .none .none none .none .none 0)), #[]⟩
noncomputable def o43 (P : Params) : Obj := ⟨(.type "code"), none, (.fields #[(.str (Str.ofString "kind_of") 227), (.str (Str.ofString "kind_of") 228), (.str (Str.ofString "/claim/cut.py") 229), (.int 10 0), (.int 1 0), (.int 0 0), (.int 0 0), (.int 3 0), (.ref 38), (.bool true), (.int 181 0), (.ref 39), .none, (.ref 40), (.ref 41), (.ref 42), (.int 231 0), (.int 10 0), (.str (Str.ofString "/claim/cut.py") 232)]), #[]⟩
noncomputable def o44 (P : Params) : Obj := ⟨(.type "function"), none, (.func (fnS (st 4) (Str.ofString "kind_of") (Str.ofString "kind_of") 3 [] .none .none .none (.str (Str.ofString "basicplus.values") 187) none (.ref 43) .none 0)), #[]⟩
noncomputable def o45 (P : Params) : Obj := ⟨(.type "tuple"), none, (.seq #[] 0), #[]⟩
noncomputable def o46 (P : Params) : Obj := ⟨.none, none, (.fields #[]), #[]⟩
noncomputable def o47 (P : Params) : Obj := ⟨(.type "tuple"), none, (.seq #[(.str (Str.ofString "number") 237), (.str (Str.ofString "many") 238), (.str (Str.ofString "bound") 239)] 0), #[]⟩
noncomputable def o48 (P : Params) : Obj := ⟨(.type "tuple"), none, (.seq #[] 0), #[]⟩
noncomputable def o49 (P : Params) : Obj := ⟨.none, none, (.func (fnS (st 5) (Str.ofString "figures_of") (Str.ofString "figures_of") 0 [] .none .none .none .none none .none .none 0)), #[]⟩
noncomputable def o50 (P : Params) : Obj := ⟨(.type "code"), none, (.fields #[(.str (Str.ofString "figures_of") 234), (.str (Str.ofString "figures_of") 235), (.str (Str.ofString "/claim/cut.py") 236), (.int 14 0), (.int 1 0), (.int 0 0), (.int 0 0), (.int 3 0), (.ref 45), (.bool true), (.int 181 0), (.ref 46), .none, (.ref 47), (.ref 48), (.ref 49), (.int 240 0), (.int 14 0), (.str (Str.ofString "/claim/cut.py") 241)]), #[]⟩
noncomputable def o51 (P : Params) : Obj := ⟨(.type "function"), none, (.func (fnS (st 5) (Str.ofString "figures_of") (Str.ofString "figures_of") 3 [] .none .none .none (.str (Str.ofString "basicplus.values") 187) none (.ref 50) .none 0)), #[]⟩
noncomputable def o52 (P : Params) : Obj := ⟨(.type "tuple"), none, (.seq #[] 0), #[]⟩
noncomputable def o53 (P : Params) : Obj := ⟨.none, none, (.fields #[]), #[]⟩
noncomputable def o54 (P : Params) : Obj := ⟨(.type "tuple"), none, (.seq #[(.str (Str.ofString "number") 246), (.str (Str.ofString "places") 247), (.str (Str.ofString "unit") 248), (.str (Str.ofString "found") 249), (.str (Str.ofString "rest") 250)] 0), #[]⟩
noncomputable def o55 (P : Params) : Obj := ⟨(.type "tuple"), none, (.seq #[] 0), #[]⟩
noncomputable def o56 (P : Params) : Obj := ⟨.none, none, (.func (fnS (st 6) (Str.ofString "rounded_by") (Str.ofString "rounded_by") 0 [] .none .none .none .none none .none .none 0)), #[]⟩
noncomputable def o57 (P : Params) : Obj := ⟨(.type "code"), none, (.fields #[(.str (Str.ofString "rounded_by") 243), (.str (Str.ofString "rounded_by") 244), (.str (Str.ofString "/claim/cut.py") 245), (.int 20 0), (.int 2 0), (.int 0 0), (.int 0 0), (.int 3 0), (.ref 52), (.bool true), (.int 181 0), (.ref 53), .none, (.ref 54), (.ref 55), (.ref 56), (.int 251 0), (.int 20 0), (.str (Str.ofString "/claim/cut.py") 252)]), #[]⟩
noncomputable def o58 (P : Params) : Obj := ⟨(.type "function"), none, (.func (fnS (st 6) (Str.ofString "rounded_by") (Str.ofString "rounded_by") 3 [] .none .none .none (.str (Str.ofString "basicplus.values") 187) none (.ref 57) .none 0)), #[]⟩
noncomputable def o59 (P : Params) : Obj := ⟨(.type "tuple"), none, (.seq #[] 0), #[]⟩
noncomputable def o60 (P : Params) : Obj := ⟨.none, none, (.fields #[]), #[]⟩
noncomputable def o61 (P : Params) : Obj := ⟨(.type "tuple"), none, (.seq #[(.str (Str.ofString "coefficient") 257), (.str (Str.ofString "exponent") 258), (.str (Str.ofString "digits") 259), (.str (Str.ofString "size") 260), (.str (Str.ofString "more") 261), (.str (Str.ofString "first") 262)] 0), #[]⟩
noncomputable def o62 (P : Params) : Obj := ⟨(.type "tuple"), none, (.seq #[] 0), #[]⟩
noncomputable def o63 (P : Params) : Obj := ⟨.none, none, (.func (fnS (st 7) (Str.ofString "made") (Str.ofString "made") 0 [] .none .none .none .none none .none .none 0)), #[]⟩
noncomputable def o64 (P : Params) : Obj := ⟨(.type "code"), none, (.fields #[(.str (Str.ofString "made") 254), (.str (Str.ofString "made") 255), (.str (Str.ofString "/claim/cut.py") 256), (.int 30 0), (.int 3 0), (.int 0 0), (.int 0 0), (.int 3 0), (.ref 59), (.bool true), (.int 181 0), (.ref 60), .none, (.ref 61), (.ref 62), (.ref 63), (.int 263 0), (.int 30 0), (.str (Str.ofString "/claim/cut.py") 264)]), #[]⟩
noncomputable def o65 (P : Params) : Obj := ⟨(.type "function"), none, (.func (fnS (st 7) (Str.ofString "made") (Str.ofString "made") 3 [] .none .none .none (.str (Str.ofString "basicplus.values") 187) none (.ref 64) .none 0)), #[]⟩
noncomputable def o66 (P : Params) : Obj := ⟨(.type "tuple"), none, (.seq #[] 0), #[]⟩
noncomputable def o67 (P : Params) : Obj := ⟨.none, none, (.fields #[]), #[]⟩
noncomputable def o68 (P : Params) : Obj := ⟨(.type "tuple"), none, (.seq #[(.str (Str.ofString "value") 269), (.str (Str.ofString "coefficient") 270), (.str (Str.ofString "exponent") 271), (.str (Str.ofString "size") 272)] 0), #[]⟩
noncomputable def o69 (P : Params) : Obj := ⟨(.type "tuple"), none, (.seq #[] 0), #[]⟩
noncomputable def o70 (P : Params) : Obj := ⟨.none, none, (.func (fnS (st 8) (Str.ofString "whole_near") (Str.ofString "whole_near") 0 [] .none .none .none .none none .none .none 0)), #[]⟩
noncomputable def o71 (P : Params) : Obj := ⟨(.type "code"), none, (.fields #[(.str (Str.ofString "whole_near") 266), (.str (Str.ofString "whole_near") 267), (.str (Str.ofString "/claim/cut.py") 268), (.int 45 0), (.int 1 0), (.int 0 0), (.int 0 0), (.int 3 0), (.ref 66), (.bool true), (.int 181 0), (.ref 67), .none, (.ref 68), (.ref 69), (.ref 70), (.int 273 0), (.int 45 0), (.str (Str.ofString "/claim/cut.py") 274)]), #[]⟩
noncomputable def o72 (P : Params) : Obj := ⟨(.type "function"), none, (.func (fnS (st 8) (Str.ofString "whole_near") (Str.ofString "whole_near") 3 [] .none .none .none (.str (Str.ofString "basicplus.values") 187) none (.ref 71) .none 0)), #[]⟩
noncomputable def o73 (P : Params) : Obj := ⟨(.type "tuple"), none, (.seq #[] 0), #[]⟩
noncomputable def o74 (P : Params) : Obj := ⟨.none, none, (.fields #[]), #[]⟩
noncomputable def o75 (P : Params) : Obj := ⟨(.type "tuple"), none, (.seq #[(.str (Str.ofString "number") 279), (.str (Str.ofString "bits") 280)] 0), #[]⟩
noncomputable def o76 (P : Params) : Obj := ⟨(.type "tuple"), none, (.seq #[] 0), #[]⟩
noncomputable def o77 (P : Params) : Obj := ⟨.none, none, (.func (fnS (st 9) (Str.ofString "fits") (Str.ofString "fits") 0 [] .none .none .none .none none .none .none 0)), #[]⟩
noncomputable def o78 (P : Params) : Obj := ⟨(.type "code"), none, (.fields #[(.str (Str.ofString "fits") 276), (.str (Str.ofString "fits") 277), (.str (Str.ofString "/claim/cut.py") 278), (.int 51 0), (.int 2 0), (.int 0 0), (.int 0 0), (.int 3 0), (.ref 73), (.bool true), (.int 181 0), (.ref 74), .none, (.ref 75), (.ref 76), (.ref 77), (.int 281 0), (.int 51 0), (.str (Str.ofString "/claim/cut.py") 282)]), #[]⟩
noncomputable def o79 (P : Params) : Obj := ⟨(.type "function"), none, (.func (fnS (st 9) (Str.ofString "fits") (Str.ofString "fits") 3 [] .none .none .none (.str (Str.ofString "basicplus.values") 187) none (.ref 78) .none 0)), #[]⟩
noncomputable def o80 (P : Params) : Obj := ⟨(.type "tuple"), none, (.seq #[] 0), #[]⟩
noncomputable def o81 (P : Params) : Obj := ⟨.none, none, (.fields #[]), #[]⟩
noncomputable def o82 (P : Params) : Obj := ⟨(.type "tuple"), none, (.seq #[(.str (Str.ofString "value") 287), (.str (Str.ofString "bits") 288), (.str (Str.ofString "number") 289)] 0), #[]⟩
noncomputable def o83 (P : Params) : Obj := ⟨(.type "tuple"), none, (.seq #[] 0), #[]⟩
noncomputable def o84 (P : Params) : Obj := ⟨.none, none, (.func (fnS (st 10) (Str.ofString "whole_of") (Str.ofString "whole_of") 0 [] .none .none .none .none none .none .none 0)), #[]⟩
noncomputable def o85 (P : Params) : Obj := ⟨(.type "code"), none, (.fields #[(.str (Str.ofString "whole_of") 284), (.str (Str.ofString "whole_of") 285), (.str (Str.ofString "/claim/cut.py") 286), (.int 53 0), (.int 2 0), (.int 0 0), (.int 0 0), (.int 3 0), (.ref 80), (.bool true), (.int 181 0), (.ref 81), .none, (.ref 82), (.ref 83), (.ref 84), (.int 290 0), (.int 53 0), (.str (Str.ofString "/claim/cut.py") 291)]), #[]⟩
noncomputable def o86 (P : Params) : Obj := ⟨(.type "function"), none, (.func (fnS (st 10) (Str.ofString "whole_of") (Str.ofString "whole_of") 3 [] .none .none .none (.str (Str.ofString "basicplus.values") 187) none (.ref 85) .none 0)), #[]⟩
noncomputable def o87 (P : Params) : Obj := ⟨(.type "tuple"), none, (.seq #[] 0), #[]⟩
noncomputable def o88 (P : Params) : Obj := ⟨.none, none, (.fields #[]), #[]⟩
noncomputable def o89 (P : Params) : Obj := ⟨(.type "tuple"), none, (.seq #[(.str (Str.ofString "value") 296), (.str (Str.ofString "digits") 297)] 0), #[]⟩
noncomputable def o90 (P : Params) : Obj := ⟨(.type "tuple"), none, (.seq #[] 0), #[]⟩
noncomputable def o91 (P : Params) : Obj := ⟨.none, none, (.func (fnS (st 11) (Str.ofString "decimal_of") (Str.ofString "decimal_of") 0 [] .none .none .none .none none .none .none 0)), #[]⟩
noncomputable def o92 (P : Params) : Obj := ⟨(.type "code"), none, (.fields #[(.str (Str.ofString "decimal_of") 293), (.str (Str.ofString "decimal_of") 294), (.str (Str.ofString "/claim/cut.py") 295), (.int 60 0), (.int 2 0), (.int 0 0), (.int 0 0), (.int 3 0), (.ref 87), (.bool true), (.int 181 0), (.ref 88), .none, (.ref 89), (.ref 90), (.ref 91), (.int 298 0), (.int 60 0), (.str (Str.ofString "/claim/cut.py") 299)]), #[]⟩
noncomputable def o93 (P : Params) : Obj := ⟨(.type "function"), none, (.func (fnS (st 11) (Str.ofString "decimal_of") (Str.ofString "decimal_of") 3 [] .none .none .none (.str (Str.ofString "basicplus.values") 187) none (.ref 92) .none 0)), #[]⟩
noncomputable def o94 (P : Params) : Obj := ⟨(.type "tuple"), none, (.seq #[] 0), #[]⟩
noncomputable def o95 (P : Params) : Obj := ⟨.none, none, (.fields #[]), #[]⟩
noncomputable def o96 (P : Params) : Obj := ⟨(.type "tuple"), none, (.seq #[(.str (Str.ofString "text") 304)] 0), #[]⟩
noncomputable def o97 (P : Params) : Obj := ⟨(.type "tuple"), none, (.seq #[] 0), #[]⟩
noncomputable def o98 (P : Params) : Obj := ⟨.none, none, (.func (fnS (st 12) (Str.ofString "checked_text") (Str.ofString "checked_text") 0 [] .none .none .none .none none .none .none 0)), #[]⟩
noncomputable def o99 (P : Params) : Obj := ⟨(.type "code"), none, (.fields #[(.str (Str.ofString "checked_text") 301), (.str (Str.ofString "checked_text") 302), (.str (Str.ofString "/claim/cut.py") 303), (.int 64 0), (.int 1 0), (.int 0 0), (.int 0 0), (.int 3 0), (.ref 94), (.bool true), (.int 181 0), (.ref 95), .none, (.ref 96), (.ref 97), (.ref 98), (.int 305 0), (.int 64 0), (.str (Str.ofString "/claim/cut.py") 306)]), #[]⟩
noncomputable def o100 (P : Params) : Obj := ⟨(.type "function"), none, (.func (fnS (st 12) (Str.ofString "checked_text") (Str.ofString "checked_text") 3 [] .none .none .none (.str (Str.ofString "basicplus.values") 187) none (.ref 99) .none 0)), #[]⟩
noncomputable def o101 (P : Params) : Obj := ⟨(.type "tuple"), none, (.seq #[] 0), #[]⟩
noncomputable def o102 (P : Params) : Obj := ⟨.none, none, (.fields #[]), #[]⟩
noncomputable def o103 (P : Params) : Obj := ⟨(.type "tuple"), none, (.seq #[(.str (Str.ofString "is_so") 311)] 0), #[]⟩
noncomputable def o104 (P : Params) : Obj := ⟨(.type "tuple"), none, (.seq #[] 0), #[]⟩
noncomputable def o105 (P : Params) : Obj := ⟨.none, none, (.func (fnS (st 13) (Str.ofString "truth") (Str.ofString "truth") 0 [] .none .none .none .none none .none .none 0)), #[]⟩
noncomputable def o106 (P : Params) : Obj := ⟨(.type "code"), none, (.fields #[(.str (Str.ofString "truth") 308), (.str (Str.ofString "truth") 309), (.str (Str.ofString "/claim/cut.py") 310), (.int 68 0), (.int 1 0), (.int 0 0), (.int 0 0), (.int 3 0), (.ref 101), (.bool true), (.int 181 0), (.ref 102), .none, (.ref 103), (.ref 104), (.ref 105), (.int 312 0), (.int 68 0), (.str (Str.ofString "/claim/cut.py") 313)]), #[]⟩
noncomputable def o107 (P : Params) : Obj := ⟨(.type "function"), none, (.func (fnS (st 13) (Str.ofString "truth") (Str.ofString "truth") 3 [] .none .none .none (.str (Str.ofString "basicplus.values") 187) none (.ref 106) .none 0)), #[]⟩
noncomputable def o108 (P : Params) : Obj := ⟨(.type "tuple"), none, (.seq #[(.int 1 317), (.int 0 318)] 0), #[]⟩
noncomputable def o109 (P : Params) : Obj := ⟨(.type "tuple"), none, (.seq #[] 0), #[]⟩
noncomputable def o110 (P : Params) : Obj := ⟨.none, none, (.fields #[]), #[]⟩
noncomputable def o111 (P : Params) : Obj := ⟨(.type "tuple"), none, (.seq #[(.str (Str.ofString "a") 325)] 0), #[]⟩
noncomputable def o112 (P : Params) : Obj := ⟨(.type "tuple"), none, (.seq #[] 0), #[]⟩
noncomputable def o113 (P : Params) : Obj := ⟨.none, none, (.func (fnS (st 17) (Str.ofString "d_negated") (Str.ofString "d_negated") 0 [] .none .none .none .none none .none .none 0)), #[]⟩
noncomputable def o114 (P : Params) : Obj := ⟨(.type "code"), none, (.fields #[(.str (Str.ofString "d_negated") 322), (.str (Str.ofString "d_negated") 323), (.str (Str.ofString "/claim/cut.py") 324), (.int 73 0), (.int 1 0), (.int 0 0), (.int 0 0), (.int 3 0), (.ref 109), (.bool true), (.int 181 0), (.ref 110), .none, (.ref 111), (.ref 112), (.ref 113), (.int 326 0), (.int 73 0), (.str (Str.ofString "/claim/cut.py") 327)]), #[]⟩
noncomputable def o115 (P : Params) : Obj := ⟨(.type "function"), none, (.func (fnS (st 17) (Str.ofString "d_negated") (Str.ofString "d_negated") 3 [] .none .none .none (.str (Str.ofString "basicplus.decimals") 315) none (.ref 114) .none 0)), #[]⟩
noncomputable def o116 (P : Params) : Obj := ⟨(.type "tuple"), none, (.seq #[] 0), #[]⟩
noncomputable def o117 (P : Params) : Obj := ⟨.none, none, (.fields #[]), #[]⟩
noncomputable def o118 (P : Params) : Obj := ⟨(.type "tuple"), none, (.seq #[(.str (Str.ofString "a") 332), (.str (Str.ofString "b") 333), (.str (Str.ofString "least") 334)] 0), #[]⟩
noncomputable def o119 (P : Params) : Obj := ⟨(.type "tuple"), none, (.seq #[] 0), #[]⟩
noncomputable def o120 (P : Params) : Obj := ⟨.none, none, (.func (fnS (st 18) (Str.ofString "alike") (Str.ofString "alike") 0 [] .none .none .none .none none .none .none 0)), #[]⟩
noncomputable def o121 (P : Params) : Obj := ⟨(.type "code"), none, (.fields #[(.str (Str.ofString "alike") 329), (.str (Str.ofString "alike") 330), (.str (Str.ofString "/claim/cut.py") 331), (.int 75 0), (.int 2 0), (.int 0 0), (.int 0 0), (.int 3 0), (.ref 116), (.bool true), (.int 181 0), (.ref 117), .none, (.ref 118), (.ref 119), (.ref 120), (.int 335 0), (.int 75 0), (.str (Str.ofString "/claim/cut.py") 336)]), #[]⟩
noncomputable def o122 (P : Params) : Obj := ⟨(.type "function"), none, (.func (fnS (st 18) (Str.ofString "alike") (Str.ofString "alike") 3 [] .none .none .none (.str (Str.ofString "basicplus.decimals") 315) none (.ref 121) .none 0)), #[]⟩
noncomputable def o123 (P : Params) : Obj := ⟨(.type "tuple"), none, (.seq #[] 0), #[]⟩
noncomputable def o124 (P : Params) : Obj := ⟨.none, none, (.fields #[]), #[]⟩
noncomputable def o125 (P : Params) : Obj := ⟨(.type "tuple"), none, (.seq #[(.str (Str.ofString "a") 341), (.str (Str.ofString "b") 342), (.str (Str.ofString "digits") 343), (.str (Str.ofString "one") 344), (.str (Str.ofString "other") 345), (.str (Str.ofString "exponent") 346)] 0), #[]⟩
noncomputable def o126 (P : Params) : Obj := ⟨(.type "tuple"), none, (.seq #[] 0), #[]⟩
noncomputable def o127 (P : Params) : Obj := ⟨.none, none, (.func (fnS (st 19) (Str.ofString "d_add") (Str.ofString "d_add") 0 [] .none .none .none .none none .none .none 0)), #[]⟩
noncomputable def o128 (P : Params) : Obj := ⟨(.type "code"), none, (.fields #[(.str (Str.ofString "d_add") 338), (.str (Str.ofString "d_add") 339), (.str (Str.ofString "/claim/cut.py") 340), (.int 78 0), (.int 3 0), (.int 0 0), (.int 0 0), (.int 3 0), (.ref 123), (.bool true), (.int 181 0), (.ref 124), .none, (.ref 125), (.ref 126), (.ref 127), (.int 347 0), (.int 78 0), (.str (Str.ofString "/claim/cut.py") 348)]), #[]⟩
noncomputable def o129 (P : Params) : Obj := ⟨(.type "function"), none, (.func (fnS (st 19) (Str.ofString "d_add") (Str.ofString "d_add") 3 [] .none .none .none (.str (Str.ofString "basicplus.decimals") 315) none (.ref 128) .none 0)), #[]⟩
noncomputable def o130 (P : Params) : Obj := ⟨(.type "tuple"), none, (.seq #[] 0), #[]⟩
noncomputable def o131 (P : Params) : Obj := ⟨.none, none, (.fields #[]), #[]⟩
noncomputable def o132 (P : Params) : Obj := ⟨(.type "tuple"), none, (.seq #[(.str (Str.ofString "a") 353), (.str (Str.ofString "b") 354), (.str (Str.ofString "digits") 355)] 0), #[]⟩
noncomputable def o133 (P : Params) : Obj := ⟨(.type "tuple"), none, (.seq #[] 0), #[]⟩
noncomputable def o134 (P : Params) : Obj := ⟨.none, none, (.func (fnS (st 20) (Str.ofString "d_sub") (Str.ofString "d_sub") 0 [] .none .none .none .none none .none .none 0)), #[]⟩
noncomputable def o135 (P : Params) : Obj := ⟨(.type "code"), none, (.fields #[(.str (Str.ofString "d_sub") 350), (.str (Str.ofString "d_sub") 351), (.str (Str.ofString "/claim/cut.py") 352), (.int 81 0), (.int 3 0), (.int 0 0), (.int 0 0), (.int 3 0), (.ref 130), (.bool true), (.int 181 0), (.ref 131), .none, (.ref 132), (.ref 133), (.ref 134), (.int 356 0), (.int 81 0), (.str (Str.ofString "/claim/cut.py") 357)]), #[]⟩
noncomputable def o136 (P : Params) : Obj := ⟨(.type "function"), none, (.func (fnS (st 20) (Str.ofString "d_sub") (Str.ofString "d_sub") 3 [] .none .none .none (.str (Str.ofString "basicplus.decimals") 315) none (.ref 135) .none 0)), #[]⟩
noncomputable def o137 (P : Params) : Obj := ⟨(.type "tuple"), none, (.seq #[] 0), #[]⟩
noncomputable def o138 (P : Params) : Obj := ⟨.none, none, (.fields #[]), #[]⟩
noncomputable def o139 (P : Params) : Obj := ⟨(.type "tuple"), none, (.seq #[(.str (Str.ofString "a") 362), (.str (Str.ofString "b") 363), (.str (Str.ofString "digits") 364)] 0), #[]⟩
noncomputable def o140 (P : Params) : Obj := ⟨(.type "tuple"), none, (.seq #[] 0), #[]⟩
noncomputable def o141 (P : Params) : Obj := ⟨.none, none, (.func (fnS (st 21) (Str.ofString "d_mul") (Str.ofString "d_mul") 0 [] .none .none .none .none none .none .none 0)), #[]⟩
noncomputable def o142 (P : Params) : Obj := ⟨(.type "code"), none, (.fields #[(.str (Str.ofString "d_mul") 359), (.str (Str.ofString "d_mul") 360), (.str (Str.ofString "/claim/cut.py") 361), (.int 83 0), (.int 3 0), (.int 0 0), (.int 0 0), (.int 3 0), (.ref 137), (.bool true), (.int 181 0), (.ref 138), .none, (.ref 139), (.ref 140), (.ref 141), (.int 365 0), (.int 83 0), (.str (Str.ofString "/claim/cut.py") 366)]), #[]⟩
noncomputable def o143 (P : Params) : Obj := ⟨(.type "function"), none, (.func (fnS (st 21) (Str.ofString "d_mul") (Str.ofString "d_mul") 3 [] .none .none .none (.str (Str.ofString "basicplus.decimals") 315) none (.ref 142) .none 0)), #[]⟩
noncomputable def o144 (P : Params) : Obj := ⟨(.type "tuple"), none, (.seq #[] 0), #[]⟩
noncomputable def o145 (P : Params) : Obj := ⟨.none, none, (.fields #[]), #[]⟩
noncomputable def o146 (P : Params) : Obj := ⟨(.type "tuple"), none, (.seq #[(.str (Str.ofString "whole") 371), (.str (Str.ofString "rest") 372), (.str (Str.ofString "exponent") 373)] 0), #[]⟩
noncomputable def o147 (P : Params) : Obj := ⟨(.type "tuple"), none, (.seq #[] 0), #[]⟩
noncomputable def o148 (P : Params) : Obj := ⟨.none, none, (.func (fnS (st 22) (Str.ofString "with_rest") (Str.ofString "with_rest") 0 [] .none .none .none .none none .none .none 0)), #[]⟩
noncomputable def o149 (P : Params) : Obj := ⟨(.type "code"), none, (.fields #[(.str (Str.ofString "with_rest") 368), (.str (Str.ofString "with_rest") 369), (.str (Str.ofString "/claim/cut.py") 370), (.int 85 0), (.int 3 0), (.int 0 0), (.int 0 0), (.int 3 0), (.ref 144), (.bool true), (.int 181 0), (.ref 145), .none, (.ref 146), (.ref 147), (.ref 148), (.int 374 0), (.int 85 0), (.str (Str.ofString "/claim/cut.py") 375)]), #[]⟩
noncomputable def o150 (P : Params) : Obj := ⟨(.type "function"), none, (.func (fnS (st 22) (Str.ofString "with_rest") (Str.ofString "with_rest") 3 [] .none .none .none (.str (Str.ofString "basicplus.decimals") 315) none (.ref 149) .none 0)), #[]⟩
noncomputable def o151 (P : Params) : Obj := ⟨(.type "tuple"), none, (.seq #[] 0), #[]⟩
noncomputable def o152 (P : Params) : Obj := ⟨.none, none, (.fields #[]), #[]⟩
noncomputable def o153 (P : Params) : Obj := ⟨(.type "tuple"), none, (.seq #[(.str (Str.ofString "a") 380), (.str (Str.ofString "b") 381), (.str (Str.ofString "digits") 382), (.str (Str.ofString "size") 383), (.str (Str.ofString "below") 384), (.str (Str.ofString "places") 385), (.str (Str.ofString "whole") 386), (.str (Str.ofString "exponent") 387)] 0), #[]⟩
noncomputable def o154 (P : Params) : Obj := ⟨(.type "tuple"), none, (.seq #[] 0), #[]⟩
noncomputable def o155 (P : Params) : Obj := ⟨.none, none, (.func (fnS (st 23) (Str.ofString "d_div") (Str.ofString "d_div") 0 [] .none .none .none .none none .none .none 0)), #[]⟩
noncomputable def o156 (P : Params) : Obj := ⟨(.type "code"), none, (.fields #[(.str (Str.ofString "d_div") 377), (.str (Str.ofString "d_div") 378), (.str (Str.ofString "/claim/cut.py") 379), (.int 87 0), (.int 3 0), (.int 0 0), (.int 0 0), (.int 3 0), (.ref 151), (.bool true), (.int 181 0), (.ref 152), .none, (.ref 153), (.ref 154), (.ref 155), (.int 388 0), (.int 87 0), (.str (Str.ofString "/claim/cut.py") 389)]), #[]⟩
noncomputable def o157 (P : Params) : Obj := ⟨(.type "function"), none, (.func (fnS (st 23) (Str.ofString "d_div") (Str.ofString "d_div") 3 [] .none .none .none (.str (Str.ofString "basicplus.decimals") 315) none (.ref 156) .none 0)), #[]⟩
noncomputable def o158 (P : Params) : Obj := ⟨(.type "tuple"), none, (.seq #[] 0), #[]⟩
noncomputable def o159 (P : Params) : Obj := ⟨.none, none, (.fields #[]), #[]⟩
noncomputable def o160 (P : Params) : Obj := ⟨(.type "tuple"), none, (.seq #[(.str (Str.ofString "a") 394), (.str (Str.ofString "b") 395), (.str (Str.ofString "one") 396), (.str (Str.ofString "other") 397), (.str (Str.ofString "exponent") 398)] 0), #[]⟩
noncomputable def o161 (P : Params) : Obj := ⟨(.type "tuple"), none, (.seq #[] 0), #[]⟩
noncomputable def o162 (P : Params) : Obj := ⟨.none, none, (.func (fnS (st 24) (Str.ofString "d_compare") (Str.ofString "d_compare") 0 [] .none .none .none .none none .none .none 0)), #[]⟩
noncomputable def o163 (P : Params) : Obj := ⟨(.type "code"), none, (.fields #[(.str (Str.ofString "d_compare") 391), (.str (Str.ofString "d_compare") 392), (.str (Str.ofString "/claim/cut.py") 393), (.int 95 0), (.int 2 0), (.int 0 0), (.int 0 0), (.int 3 0), (.ref 158), (.bool true), (.int 181 0), (.ref 159), .none, (.ref 160), (.ref 161), (.ref 162), (.int 399 0), (.int 95 0), (.str (Str.ofString "/claim/cut.py") 400)]), #[]⟩
noncomputable def o164 (P : Params) : Obj := ⟨(.type "function"), none, (.func (fnS (st 24) (Str.ofString "d_compare") (Str.ofString "d_compare") 3 [] .none .none .none (.str (Str.ofString "basicplus.decimals") 315) none (.ref 163) .none 0)), #[]⟩
noncomputable def o165 (P : Params) : Obj := ⟨(.type "tuple"), none, (.seq #[] 0), #[]⟩
noncomputable def o166 (P : Params) : Obj := ⟨.none, none, (.fields #[]), #[]⟩
noncomputable def o167 (P : Params) : Obj := ⟨(.type "tuple"), none, (.seq #[(.str (Str.ofString "a") 405), (.str (Str.ofString "n") 406), (.str (Str.ofString "digits") 407), (.str (Str.ofString "work") 408), (.str (Str.ofString "found") 409), (.str (Str.ofString "left") 410)] 0), #[]⟩
noncomputable def o168 (P : Params) : Obj := ⟨(.type "tuple"), none, (.seq #[] 0), #[]⟩
noncomputable def o169 (P : Params) : Obj := ⟨.none, none, (.func (fnS (st 25) (Str.ofString "d_power") (Str.ofString "d_power") 0 [] .none .none .none .none none .none .none 0)), #[]⟩
noncomputable def o170 (P : Params) : Obj := ⟨(.type "code"), none, (.fields #[(.str (Str.ofString "d_power") 402), (.str (Str.ofString "d_power") 403), (.str (Str.ofString "/claim/cut.py") 404), (.int 98 0), (.int 3 0), (.int 0 0), (.int 0 0), (.int 3 0), (.ref 165), (.bool true), (.int 181 0), (.ref 166), .none, (.ref 167), (.ref 168), (.ref 169), (.int 411 0), (.int 98 0), (.str (Str.ofString "/claim/cut.py") 412)]), #[]⟩
noncomputable def o171 (P : Params) : Obj := ⟨(.type "function"), none, (.func (fnS (st 25) (Str.ofString "d_power") (Str.ofString "d_power") 3 [] .none .none .none (.str (Str.ofString "basicplus.decimals") 315) none (.ref 170) .none 0)), #[]⟩
noncomputable def o172 (P : Params) : Obj := ⟨(.type "tuple"), none, (.seq #[] 0), #[]⟩
noncomputable def o173 (P : Params) : Obj := ⟨.none, none, (.fields #[]), #[]⟩
noncomputable def o174 (P : Params) : Obj := ⟨(.type "tuple"), none, (.seq #[(.str (Str.ofString "a") 417), (.str (Str.ofString "work") 418)] 0), #[]⟩
noncomputable def o175 (P : Params) : Obj := ⟨(.type "tuple"), none, (.seq #[] 0), #[]⟩
noncomputable def o176 (P : Params) : Obj := ⟨.none, none, (.func (fnS (st 26) (Str.ofString "square_or_end") (Str.ofString "square_or_end") 0 [] .none .none .none .none none .none .none 0)), #[]⟩
noncomputable def o177 (P : Params) : Obj := ⟨(.type "code"), none, (.fields #[(.str (Str.ofString "square_or_end") 414), (.str (Str.ofString "square_or_end") 415), (.str (Str.ofString "/claim/cut.py") 416), (.int 112 0), (.int 2 0), (.int 0 0), (.int 0 0), (.int 3 0), (.ref 172), (.bool true), (.int 181 0), (.ref 173), .none, (.ref 174), (.ref 175), (.ref 176), (.int 419 0), (.int 112 0), (.str (Str.ofString "/claim/cut.py") 420)]), #[]⟩
noncomputable def o178 (P : Params) : Obj := ⟨(.type "function"), none, (.func (fnS (st 26) (Str.ofString "square_or_end") (Str.ofString "square_or_end") 3 [] .none .none .none (.str (Str.ofString "basicplus.decimals") 315) none (.ref 177) .none 0)), #[]⟩
noncomputable def o179 (P : Params) : Obj := ⟨(.type "tuple"), none, (.seq #[] 0), #[]⟩
noncomputable def o180 (P : Params) : Obj := ⟨.none, none, (.fields #[]), #[]⟩
noncomputable def o181 (P : Params) : Obj := ⟨(.type "tuple"), none, (.seq #[(.str (Str.ofString "value") 427)] 0), #[]⟩
noncomputable def o182 (P : Params) : Obj := ⟨(.type "tuple"), none, (.seq #[] 0), #[]⟩
noncomputable def o183 (P : Params) : Obj := ⟨.none, none, (.func (fnS (st 28) (Str.ofString "is_whole") (Str.ofString "is_whole") 0 [] .none .none .none .none none .none .none 0)), #[]⟩
noncomputable def o184 (P : Params) : Obj := ⟨(.type "code"), none, (.fields #[(.str (Str.ofString "is_whole") 424), (.str (Str.ofString "is_whole") 425), (.str (Str.ofString "/claim/cut.py") 426), (.int 115 0), (.int 1 0), (.int 0 0), (.int 0 0), (.int 3 0), (.ref 179), (.bool true), (.int 181 0), (.ref 180), .none, (.ref 181), (.ref 182), (.ref 183), (.int 428 0), (.int 115 0), (.str (Str.ofString "/claim/cut.py") 429)]), #[]⟩
noncomputable def o185 (P : Params) : Obj := ⟨(.type "function"), none, (.func (fnS (st 28) (Str.ofString "is_whole") (Str.ofString "is_whole") 3 [] .none .none .none (.str (Str.ofString "basicplus.arith") 422) none (.ref 184) .none 0)), #[]⟩
noncomputable def o186 (P : Params) : Obj := ⟨(.type "tuple"), none, (.seq #[] 0), #[]⟩
noncomputable def o187 (P : Params) : Obj := ⟨.none, none, (.fields #[]), #[]⟩
noncomputable def o188 (P : Params) : Obj := ⟨(.type "tuple"), none, (.seq #[(.str (Str.ofString "number") 434), (.str (Str.ofString "bits") 435), (.str (Str.ofString "digits") 436)] 0), #[]⟩
noncomputable def o189 (P : Params) : Obj := ⟨(.type "tuple"), none, (.seq #[] 0), #[]⟩
noncomputable def o190 (P : Params) : Obj := ⟨.none, none, (.func (fnS (st 29) (Str.ofString "settled") (Str.ofString "settled") 0 [] .none .none .none .none none .none .none 0)), #[]⟩
noncomputable def o191 (P : Params) : Obj := ⟨(.type "code"), none, (.fields #[(.str (Str.ofString "settled") 431), (.str (Str.ofString "settled") 432), (.str (Str.ofString "/claim/cut.py") 433), (.int 119 0), (.int 3 0), (.int 0 0), (.int 0 0), (.int 3 0), (.ref 186), (.bool true), (.int 181 0), (.ref 187), .none, (.ref 188), (.ref 189), (.ref 190), (.int 437 0), (.int 119 0), (.str (Str.ofString "/claim/cut.py") 438)]), #[]⟩
noncomputable def o192 (P : Params) : Obj := ⟨(.type "function"), none, (.func (fnS (st 29) (Str.ofString "settled") (Str.ofString "settled") 3 [] .none .none .none (.str (Str.ofString "basicplus.arith") 422) none (.ref 191) .none 0)), #[]⟩
noncomputable def o193 (P : Params) : Obj := ⟨(.type "tuple"), none, (.seq #[] 0), #[]⟩
noncomputable def o194 (P : Params) : Obj := ⟨.none, none, (.fields #[]), #[]⟩
noncomputable def o195 (P : Params) : Obj := ⟨(.type "tuple"), none, (.seq #[(.str (Str.ofString "op") 443), (.str (Str.ofString "a") 444), (.str (Str.ofString "b") 445), (.str (Str.ofString "bits") 446), (.str (Str.ofString "digits") 447)] 0), #[]⟩
noncomputable def o196 (P : Params) : Obj := ⟨(.type "tuple"), none, (.seq #[] 0), #[]⟩
noncomputable def o197 (P : Params) : Obj := ⟨.none, none, (.func (fnS (st 30) (Str.ofString "whole_reckoned") (Str.ofString "whole_reckoned") 0 [] .none .none .none .none none .none .none 0)), #[]⟩
noncomputable def o198 (P : Params) : Obj := ⟨(.type "code"), none, (.fields #[(.str (Str.ofString "whole_reckoned") 440), (.str (Str.ofString "whole_reckoned") 441), (.str (Str.ofString "/claim/cut.py") 442), (.int 121 0), (.int 5 0), (.int 0 0), (.int 0 0), (.int 3 0), (.ref 193), (.bool true), (.int 181 0), (.ref 194), .none, (.ref 195), (.ref 196), (.ref 197), (.int 448 0), (.int 121 0), (.str (Str.ofString "/claim/cut.py") 449)]), #[]⟩
noncomputable def o199 (P : Params) : Obj := ⟨(.type "function"), none, (.func (fnS (st 30) (Str.ofString "whole_reckoned") (Str.ofString "whole_reckoned") 3 [] .none .none .none (.str (Str.ofString "basicplus.arith") 422) none (.ref 198) .none 0)), #[]⟩
noncomputable def o200 (P : Params) : Obj := ⟨(.type "tuple"), none, (.seq #[] 0), #[]⟩
noncomputable def o201 (P : Params) : Obj := ⟨.none, none, (.fields #[]), #[]⟩
noncomputable def o202 (P : Params) : Obj := ⟨(.type "tuple"), none, (.seq #[(.str (Str.ofString "a") 454), (.str (Str.ofString "b") 455), (.str (Str.ofString "found") 456)] 0), #[]⟩
noncomputable def o203 (P : Params) : Obj := ⟨(.type "tuple"), none, (.seq #[] 0), #[]⟩
noncomputable def o204 (P : Params) : Obj := ⟨.none, none, (.func (fnS (st 31) (Str.ofString "cut_quotient") (Str.ofString "cut_quotient") 0 [] .none .none .none .none none .none .none 0)), #[]⟩
noncomputable def o205 (P : Params) : Obj := ⟨(.type "code"), none, (.fields #[(.str (Str.ofString "cut_quotient") 451), (.str (Str.ofString "cut_quotient") 452), (.str (Str.ofString "/claim/cut.py") 453), (.int 125 0), (.int 2 0), (.int 0 0), (.int 0 0), (.int 3 0), (.ref 200), (.bool true), (.int 181 0), (.ref 201), .none, (.ref 202), (.ref 203), (.ref 204), (.int 457 0), (.int 125 0), (.str (Str.ofString "/claim/cut.py") 458)]), #[]⟩
noncomputable def o206 (P : Params) : Obj := ⟨(.type "function"), none, (.func (fnS (st 31) (Str.ofString "cut_quotient") (Str.ofString "cut_quotient") 3 [] .none .none .none (.str (Str.ofString "basicplus.arith") 422) none (.ref 205) .none 0)), #[]⟩
noncomputable def o207 (P : Params) : Obj := ⟨(.type "tuple"), none, (.seq #[] 0), #[]⟩
noncomputable def o208 (P : Params) : Obj := ⟨.none, none, (.fields #[]), #[]⟩
noncomputable def o209 (P : Params) : Obj := ⟨(.type "tuple"), none, (.seq #[(.str (Str.ofString "a") 463), (.str (Str.ofString "b") 464)] 0), #[]⟩
noncomputable def o210 (P : Params) : Obj := ⟨(.type "tuple"), none, (.seq #[] 0), #[]⟩
noncomputable def o211 (P : Params) : Obj := ⟨.none, none, (.func (fnS (st 32) (Str.ofString "cut_rest") (Str.ofString "cut_rest") 0 [] .none .none .none .none none .none .none 0)), #[]⟩
noncomputable def o212 (P : Params) : Obj := ⟨(.type "code"), none, (.fields #[(.str (Str.ofString "cut_rest") 460), (.str (Str.ofString "cut_rest") 461), (.str (Str.ofString "/claim/cut.py") 462), (.int 130 0), (.int 2 0), (.int 0 0), (.int 0 0), (.int 3 0), (.ref 207), (.bool true), (.int 181 0), (.ref 208), .none, (.ref 209), (.ref 210), (.ref 211), (.int 465 0), (.int 130 0), (.str (Str.ofString "/claim/cut.py") 466)]), #[]⟩
noncomputable def o213 (P : Params) : Obj := ⟨(.type "function"), none, (.func (fnS (st 32) (Str.ofString "cut_rest") (Str.ofString "cut_rest") 3 [] .none .none .none (.str (Str.ofString "basicplus.arith") 422) none (.ref 212) .none 0)), #[]⟩
noncomputable def o214 (P : Params) : Obj := ⟨(.type "tuple"), none, (.seq #[] 0), #[]⟩
noncomputable def o215 (P : Params) : Obj := ⟨.none, none, (.fields #[]), #[]⟩
noncomputable def o216 (P : Params) : Obj := ⟨(.type "tuple"), none, (.seq #[(.str (Str.ofString "value") 471)] 0), #[]⟩
noncomputable def o217 (P : Params) : Obj := ⟨(.type "tuple"), none, (.seq #[] 0), #[]⟩
noncomputable def o218 (P : Params) : Obj := ⟨.none, none, (.func (fnS (st 33) (Str.ofString "exponent_of") (Str.ofString "exponent_of") 0 [] .none .none .none .none none .none .none 0)), #[]⟩
noncomputable def o219 (P : Params) : Obj := ⟨(.type "code"), none, (.fields #[(.str (Str.ofString "exponent_of") 468), (.str (Str.ofString "exponent_of") 469), (.str (Str.ofString "/claim/cut.py") 470), (.int 132 0), (.int 1 0), (.int 0 0), (.int 0 0), (.int 3 0), (.ref 214), (.bool true), (.int 181 0), (.ref 215), .none, (.ref 216), (.ref 217), (.ref 218), (.int 472 0), (.int 132 0), (.str (Str.ofString "/claim/cut.py") 473)]), #[]⟩
noncomputable def o220 (P : Params) : Obj := ⟨(.type "function"), none, (.func (fnS (st 33) (Str.ofString "exponent_of") (Str.ofString "exponent_of") 3 [] .none .none .none (.str (Str.ofString "basicplus.arith") 422) none (.ref 219) .none 0)), #[]⟩
noncomputable def o221 (P : Params) : Obj := ⟨(.type "tuple"), none, (.seq #[] 0), #[]⟩
noncomputable def o222 (P : Params) : Obj := ⟨.none, none, (.fields #[]), #[]⟩
noncomputable def o223 (P : Params) : Obj := ⟨(.type "tuple"), none, (.seq #[(.str (Str.ofString "a") 478), (.str (Str.ofString "n") 479), (.str (Str.ofString "bits") 480), (.str (Str.ofString "digits") 481)] 0), #[]⟩
noncomputable def o224 (P : Params) : Obj := ⟨(.type "tuple"), none, (.seq #[] 0), #[]⟩
noncomputable def o225 (P : Params) : Obj := ⟨.none, none, (.func (fnS (st 34) (Str.ofString "whole_power") (Str.ofString "whole_power") 0 [] .none .none .none .none none .none .none 0)), #[]⟩
noncomputable def o226 (P : Params) : Obj := ⟨(.type "code"), none, (.fields #[(.str (Str.ofString "whole_power") 475), (.str (Str.ofString "whole_power") 476), (.str (Str.ofString "/claim/cut.py") 477), (.int 138 0), (.int 4 0), (.int 0 0), (.int 0 0), (.int 3 0), (.ref 221), (.bool true), (.int 181 0), (.ref 222), .none, (.ref 223), (.ref 224), (.ref 225), (.int 482 0), (.int 138 0), (.str (Str.ofString "/claim/cut.py") 483)]), #[]⟩
noncomputable def o227 (P : Params) : Obj := ⟨(.type "function"), none, (.func (fnS (st 34) (Str.ofString "whole_power") (Str.ofString "whole_power") 3 [] .none .none .none (.str (Str.ofString "basicplus.arith") 422) none (.ref 226) .none 0)), #[]⟩
noncomputable def o228 (P : Params) : Obj := ⟨(.type "tuple"), none, (.seq #[] 0), #[]⟩
noncomputable def o229 (P : Params) : Obj := ⟨.none, none, (.fields #[]), #[]⟩
noncomputable def o230 (P : Params) : Obj := ⟨(.type "tuple"), none, (.seq #[(.str (Str.ofString "a") 488), (.str (Str.ofString "b") 489), (.str (Str.ofString "bits") 490), (.str (Str.ofString "digits") 491), (.str (Str.ofString "n") 492)] 0), #[]⟩
noncomputable def o231 (P : Params) : Obj := ⟨(.type "tuple"), none, (.seq #[] 0), #[]⟩
noncomputable def o232 (P : Params) : Obj := ⟨.none, none, (.func (fnS (st 35) (Str.ofString "raised") (Str.ofString "raised") 0 [] .none .none .none .none none .none .none 0)), #[]⟩
noncomputable def o233 (P : Params) : Obj := ⟨(.type "code"), none, (.fields #[(.str (Str.ofString "raised") 485), (.str (Str.ofString "raised") 486), (.str (Str.ofString "/claim/cut.py") 487), (.int 144 0), (.int 4 0), (.int 0 0), (.int 0 0), (.int 3 0), (.ref 228), (.bool true), (.int 181 0), (.ref 229), .none, (.ref 230), (.ref 231), (.ref 232), (.int 493 0), (.int 144 0), (.str (Str.ofString "/claim/cut.py") 494)]), #[]⟩
noncomputable def o234 (P : Params) : Obj := ⟨(.type "function"), none, (.func (fnS (st 35) (Str.ofString "raised") (Str.ofString "raised") 3 [] .none .none .none (.str (Str.ofString "basicplus.arith") 422) none (.ref 233) .none 0)), #[]⟩
noncomputable def o235 (P : Params) : Obj := ⟨(.type "tuple"), none, (.seq #[] 0), #[]⟩
noncomputable def o236 (P : Params) : Obj := ⟨.none, none, (.fields #[]), #[]⟩
noncomputable def o237 (P : Params) : Obj := ⟨(.type "tuple"), none, (.seq #[(.str (Str.ofString "op") 499), (.str (Str.ofString "a") 500), (.str (Str.ofString "b") 501), (.str (Str.ofString "bits") 502), (.str (Str.ofString "digits") 503), (.str (Str.ofString "is_first") 504), (.str (Str.ofString "is_second") 505), (.str (Str.ofString "work") 506), (.str (Str.ofString "one") 507), (.str (Str.ofString "other") 508)] 0), #[]⟩
noncomputable def o238 (P : Params) : Obj := ⟨(.type "tuple"), none, (.seq #[] 0), #[]⟩
noncomputable def o239 (P : Params) : Obj := ⟨.none, none, (.func (fnS (st 36) (Str.ofString "reckoned") (Str.ofString "reckoned") 0 [] .none .none .none .none none .none .none 0)), #[]⟩
noncomputable def o240 (P : Params) : Obj := ⟨(.type "code"), none, (.fields #[(.str (Str.ofString "reckoned") 496), (.str (Str.ofString "reckoned") 497), (.str (Str.ofString "/claim/cut.py") 498), (.int 149 0), (.int 5 0), (.int 0 0), (.int 0 0), (.int 3 0), (.ref 235), (.bool true), (.int 181 0), (.ref 236), .none, (.ref 237), (.ref 238), (.ref 239), (.int 509 0), (.int 149 0), (.str (Str.ofString "/claim/cut.py") 510)]), #[]⟩
noncomputable def o241 (P : Params) : Obj := ⟨(.type "function"), none, (.func (fnS (st 36) (Str.ofString "reckoned") (Str.ofString "reckoned") 3 [] .none .none .none (.str (Str.ofString "basicplus.arith") 422) none (.ref 240) .none 0)), #[]⟩
noncomputable def o242 (P : Params) : Obj := ⟨(.type "tuple"), none, (.seq #[] 0), #[]⟩
noncomputable def o243 (P : Params) : Obj := ⟨.none, none, (.fields #[]), #[]⟩
noncomputable def o244 (P : Params) : Obj := ⟨(.type "tuple"), none, (.seq #[(.str (Str.ofString "a") 515), (.str (Str.ofString "bits") 516), (.str (Str.ofString "digits") 517)] 0), #[]⟩
noncomputable def o245 (P : Params) : Obj := ⟨(.type "tuple"), none, (.seq #[] 0), #[]⟩
noncomputable def o246 (P : Params) : Obj := ⟨.none, none, (.func (fnS (st 37) (Str.ofString "negated") (Str.ofString "negated") 0 [] .none .none .none .none none .none .none 0)), #[]⟩
noncomputable def o247 (P : Params) : Obj := ⟨(.type "code"), none, (.fields #[(.str (Str.ofString "negated") 512), (.str (Str.ofString "negated") 513), (.str (Str.ofString "/claim/cut.py") 514), (.int 164 0), (.int 3 0), (.int 0 0), (.int 0 0), (.int 3 0), (.ref 242), (.bool true), (.int 181 0), (.ref 243), .none, (.ref 244), (.ref 245), (.ref 246), (.int 518 0), (.int 164 0), (.str (Str.ofString "/claim/cut.py") 519)]), #[]⟩
noncomputable def o248 (P : Params) : Obj := ⟨(.type "function"), none, (.func (fnS (st 37) (Str.ofString "negated") (Str.ofString "negated") 3 [] .none .none .none (.str (Str.ofString "basicplus.arith") 422) none (.ref 247) .none 0)), #[]⟩
noncomputable def o249 (P : Params) : Obj := ⟨(.type "tuple"), none, (.seq #[] 0), #[]⟩
noncomputable def o250 (P : Params) : Obj := ⟨.none, none, (.fields #[]), #[]⟩
noncomputable def o251 (P : Params) : Obj := ⟨(.type "tuple"), none, (.seq #[(.str (Str.ofString "a") 524), (.str (Str.ofString "b") 525)] 0), #[]⟩
noncomputable def o252 (P : Params) : Obj := ⟨(.type "tuple"), none, (.seq #[] 0), #[]⟩
noncomputable def o253 (P : Params) : Obj := ⟨.none, none, (.func (fnS (st 38) (Str.ofString "order_of") (Str.ofString "order_of") 0 [] .none .none .none .none none .none .none 0)), #[]⟩
noncomputable def o254 (P : Params) : Obj := ⟨(.type "code"), none, (.fields #[(.str (Str.ofString "order_of") 521), (.str (Str.ofString "order_of") 522), (.str (Str.ofString "/claim/cut.py") 523), (.int 166 0), (.int 2 0), (.int 0 0), (.int 0 0), (.int 3 0), (.ref 249), (.bool true), (.int 181 0), (.ref 250), .none, (.ref 251), (.ref 252), (.ref 253), (.int 526 0), (.int 166 0), (.str (Str.ofString "/claim/cut.py") 527)]), #[]⟩
noncomputable def o255 (P : Params) : Obj := ⟨(.type "function"), none, (.func (fnS (st 38) (Str.ofString "order_of") (Str.ofString "order_of") 3 [] .none .none .none (.str (Str.ofString "basicplus.arith") 422) none (.ref 254) .none 0)), #[]⟩
noncomputable def o256 (P : Params) : Obj := ⟨(.type "tuple"), none, (.seq #[] 0), #[]⟩
noncomputable def o257 (P : Params) : Obj := ⟨.none, none, (.fields #[]), #[]⟩
noncomputable def o258 (P : Params) : Obj := ⟨(.type "tuple"), none, (.seq #[(.str (Str.ofString "a") 532), (.str (Str.ofString "bits") 533)] 0), #[]⟩
noncomputable def o259 (P : Params) : Obj := ⟨(.type "tuple"), none, (.seq #[] 0), #[]⟩
noncomputable def o260 (P : Params) : Obj := ⟨.none, none, (.func (fnS (st 39) (Str.ofString "inverted") (Str.ofString "inverted") 0 [] .none .none .none .none none .none .none 0)), #[]⟩
noncomputable def o261 (P : Params) : Obj := ⟨(.type "code"), none, (.fields #[(.str (Str.ofString "inverted") 529), (.str (Str.ofString "inverted") 530), (.str (Str.ofString "/claim/cut.py") 531), (.int 172 0), (.int 2 0), (.int 0 0), (.int 0 0), (.int 3 0), (.ref 256), (.bool true), (.int 181 0), (.ref 257), .none, (.ref 258), (.ref 259), (.ref 260), (.int 534 0), (.int 172 0), (.str (Str.ofString "/claim/cut.py") 535)]), #[]⟩
noncomputable def o262 (P : Params) : Obj := ⟨(.type "function"), none, (.func (fnS (st 39) (Str.ofString "inverted") (Str.ofString "inverted") 3 [] .none .none .none (.str (Str.ofString "basicplus.arith") 422) none (.ref 261) .none 0)), #[]⟩
noncomputable def o263 (P : Params) : Obj := ⟨(.type "tuple"), none, (.seq #[] 0), #[]⟩
noncomputable def o264 (P : Params) : Obj := ⟨.none, none, (.fields #[]), #[]⟩
noncomputable def o265 (P : Params) : Obj := ⟨(.type "tuple"), none, (.seq #[(.str (Str.ofString "op") 540), (.str (Str.ofString "a") 541), (.str (Str.ofString "b") 542), (.str (Str.ofString "bits") 543), (.str (Str.ofString "one") 544), (.str (Str.ofString "other") 545)] 0), #[]⟩
noncomputable def o266 (P : Params) : Obj := ⟨(.type "tuple"), none, (.seq #[] 0), #[]⟩
noncomputable def o267 (P : Params) : Obj := ⟨.none, none, (.func (fnS (st 40) (Str.ofString "logic") (Str.ofString "logic") 0 [] .none .none .none .none none .none .none 0)), #[]⟩
noncomputable def o268 (P : Params) : Obj := ⟨(.type "code"), none, (.fields #[(.str (Str.ofString "logic") 537), (.str (Str.ofString "logic") 538), (.str (Str.ofString "/claim/cut.py") 539), (.int 174 0), (.int 4 0), (.int 0 0), (.int 0 0), (.int 3 0), (.ref 263), (.bool true), (.int 181 0), (.ref 264), .none, (.ref 265), (.ref 266), (.ref 267), (.int 546 0), (.int 174 0), (.str (Str.ofString "/claim/cut.py") 547)]), #[]⟩
noncomputable def o269 (P : Params) : Obj := ⟨(.type "function"), none, (.func (fnS (st 40) (Str.ofString "logic") (Str.ofString "logic") 3 [] .none .none .none (.str (Str.ofString "basicplus.arith") 422) none (.ref 268) .none 0)), #[]⟩
noncomputable def o270 (P : Params) : Obj := ⟨(.type "tuple"), none, (.seq #[] 0), #[]⟩
noncomputable def o271 (P : Params) : Obj := ⟨.none, none, (.fields #[]), #[]⟩
noncomputable def o272 (P : Params) : Obj := ⟨(.type "tuple"), none, (.seq #[(.str (Str.ofString "tree") 554)] 0), #[]⟩
noncomputable def o273 (P : Params) : Obj := ⟨(.type "tuple"), none, (.seq #[] 0), #[]⟩
noncomputable def o274 (P : Params) : Obj := ⟨.none, none, (.func (fnS (st 42) (Str.ofString "parts_of_tree") (Str.ofString "parts_of_tree") 0 [] .none .none .none .none none .none .none 0)), #[]⟩
noncomputable def o275 (P : Params) : Obj := ⟨(.type "code"), none, (.fields #[(.str (Str.ofString "parts_of_tree") 551), (.str (Str.ofString "parts_of_tree") 552), (.str (Str.ofString "/claim/cut.py") 553), (.int 184 0), (.int 1 0), (.int 0 0), (.int 0 0), (.int 3 0), (.ref 270), (.bool true), (.int 181 0), (.ref 271), .none, (.ref 272), (.ref 273), (.ref 274), (.int 555 0), (.int 184 0), (.str (Str.ofString "/claim/cut.py") 556)]), #[]⟩
noncomputable def o276 (P : Params) : Obj := ⟨(.type "function"), none, (.func (fnS (st 42) (Str.ofString "parts_of_tree") (Str.ofString "parts_of_tree") 3 [] .none .none .none (.str (Str.ofString "basicplus.exprread") 549) none (.ref 275) .none 0)), #[]⟩
noncomputable def o277 (P : Params) : Obj := ⟨(.type "tuple"), none, (.seq #[(.str (Str.ofString "AND") 560), (.str (Str.ofString "OR") 561), (.str (Str.ofString "XOR") 562), (.str (Str.ofString "EQV") 563), (.str (Str.ofString "IMP") 564)] 0), #[]⟩
noncomputable def o278 (P : Params) : Obj := ⟨(.type "tuple"), none, (.seq #[(.str (Str.ofString "=") 566), (.str (Str.ofString "<>") 567), (.str (Str.ofString "<") 568), (.str (Str.ofString ">") 569), (.str (Str.ofString "<=") 570), (.str (Str.ofString ">=") 571)] 0), #[]⟩
noncomputable def o279 (P : Params) : Obj := ⟨(.type "tuple"), none, (.seq #[] 0), #[]⟩
noncomputable def o280 (P : Params) : Obj := ⟨.none, none, (.fields #[]), #[]⟩
noncomputable def o281 (P : Params) : Obj := ⟨(.type "tuple"), none, (.seq #[(.str (Str.ofString "one") 576), (.str (Str.ofString "other") 577)] 0), #[]⟩
noncomputable def o282 (P : Params) : Obj := ⟨(.type "tuple"), none, (.seq #[] 0), #[]⟩
noncomputable def o283 (P : Params) : Obj := ⟨.none, none, (.func (fnS (st 46) (Str.ofString "order_of_texts") (Str.ofString "order_of_texts") 0 [] .none .none .none .none none .none .none 0)), #[]⟩
noncomputable def o284 (P : Params) : Obj := ⟨(.type "code"), none, (.fields #[(.str (Str.ofString "order_of_texts") 573), (.str (Str.ofString "order_of_texts") 574), (.str (Str.ofString "/claim/cut.py") 575), (.int 193 0), (.int 2 0), (.int 0 0), (.int 0 0), (.int 3 0), (.ref 279), (.bool true), (.int 181 0), (.ref 280), .none, (.ref 281), (.ref 282), (.ref 283), (.int 578 0), (.int 193 0), (.str (Str.ofString "/claim/cut.py") 579)]), #[]⟩
noncomputable def o285 (P : Params) : Obj := ⟨(.type "function"), none, (.func (fnS (st 46) (Str.ofString "order_of_texts") (Str.ofString "order_of_texts") 3 [] .none .none .none (.str (Str.ofString "basicplus.worth") 558) none (.ref 284) .none 0)), #[]⟩
noncomputable def o286 (P : Params) : Obj := ⟨(.type "tuple"), none, (.seq #[] 0), #[]⟩
noncomputable def o287 (P : Params) : Obj := ⟨.none, none, (.fields #[]), #[]⟩
noncomputable def o288 (P : Params) : Obj := ⟨(.type "tuple"), none, (.seq #[(.str (Str.ofString "op") 584), (.str (Str.ofString "order") 585)] 0), #[]⟩
noncomputable def o289 (P : Params) : Obj := ⟨(.type "tuple"), none, (.seq #[] 0), #[]⟩
noncomputable def o290 (P : Params) : Obj := ⟨.none, none, (.func (fnS (st 47) (Str.ofString "compared") (Str.ofString "compared") 0 [] .none .none .none .none none .none .none 0)), #[]⟩
noncomputable def o291 (P : Params) : Obj := ⟨(.type "code"), none, (.fields #[(.str (Str.ofString "compared") 581), (.str (Str.ofString "compared") 582), (.str (Str.ofString "/claim/cut.py") 583), (.int 195 0), (.int 2 0), (.int 0 0), (.int 0 0), (.int 3 0), (.ref 286), (.bool true), (.int 181 0), (.ref 287), .none, (.ref 288), (.ref 289), (.ref 290), (.int 586 0), (.int 195 0), (.str (Str.ofString "/claim/cut.py") 587)]), #[]⟩
noncomputable def o292 (P : Params) : Obj := ⟨(.type "function"), none, (.func (fnS (st 47) (Str.ofString "compared") (Str.ofString "compared") 3 [] .none .none .none (.str (Str.ofString "basicplus.worth") 558) none (.ref 291) .none 0)), #[]⟩
noncomputable def o293 (P : Params) : Obj := ⟨(.type "tuple"), none, (.seq #[] 0), #[]⟩
noncomputable def o294 (P : Params) : Obj := ⟨.none, none, (.fields #[]), #[]⟩
noncomputable def o295 (P : Params) : Obj := ⟨(.type "tuple"), none, (.seq #[(.str (Str.ofString "op") 592), (.str (Str.ofString "one") 593), (.str (Str.ofString "other") 594)] 0), #[]⟩
noncomputable def o296 (P : Params) : Obj := ⟨(.type "tuple"), none, (.seq #[] 0), #[]⟩
noncomputable def o297 (P : Params) : Obj := ⟨.none, none, (.func (fnS (st 48) (Str.ofString "worth_of_texts") (Str.ofString "worth_of_texts") 0 [] .none .none .none .none none .none .none 0)), #[]⟩
noncomputable def o298 (P : Params) : Obj := ⟨(.type "code"), none, (.fields #[(.str (Str.ofString "worth_of_texts") 589), (.str (Str.ofString "worth_of_texts") 590), (.str (Str.ofString "/claim/cut.py") 591), (.int 201 0), (.int 3 0), (.int 0 0), (.int 0 0), (.int 3 0), (.ref 293), (.bool true), (.int 181 0), (.ref 294), .none, (.ref 295), (.ref 296), (.ref 297), (.int 595 0), (.int 201 0), (.str (Str.ofString "/claim/cut.py") 596)]), #[]⟩
noncomputable def o299 (P : Params) : Obj := ⟨(.type "function"), none, (.func (fnS (st 48) (Str.ofString "worth_of_texts") (Str.ofString "worth_of_texts") 3 [] .none .none .none (.str (Str.ofString "basicplus.worth") 558) none (.ref 298) .none 0)), #[]⟩
noncomputable def o300 (P : Params) : Obj := ⟨(.type "tuple"), none, (.seq #[] 0), #[]⟩
noncomputable def o301 (P : Params) : Obj := ⟨.none, none, (.fields #[]), #[]⟩
noncomputable def o302 (P : Params) : Obj := ⟨.none, none, (.func (fnS (st 49) (Str.ofString "worth_of_two") (Str.ofString "worth_of_two") 0 [] .none .none .none .none none .none .none 0)), #[]⟩
noncomputable def o303 (P : Params) : Obj := ⟨(.type "code"), none, (.fields #[(.str (Str.ofString "worth_of_two") 598), (.str (Str.ofString "worth_of_two") 599), (.str (Str.ofString "/claim/cut.py") 600), (.int 207 0), (.int 5 0), (.int 0 0), (.int 0 0), (.int 3 0), (.ref 300), (.bool true), (.int 181 0), (.ref 301), .none, .none, .none, (.ref 302), (.int 601 0), (.int 207 0), (.str (Str.ofString "/claim/cut.py") 602)]), #[]⟩
noncomputable def o304 (P : Params) : Obj := ⟨(.type "function"), none, (.func (fnS (st 49) (Str.ofString "worth_of_two") (Str.ofString "worth_of_two") 3 [] .none .none .none (.str (Str.ofString "basicplus.worth") 558) none (.ref 303) .none 0)), #[]⟩
noncomputable def o305 (P : Params) : Obj := ⟨(.type "tuple"), none, (.seq #[] 0), #[]⟩
noncomputable def o306 (P : Params) : Obj := ⟨.none, none, (.fields #[]), #[]⟩
noncomputable def o307 (P : Params) : Obj := ⟨(.type "tuple"), none, (.seq #[(.str (Str.ofString "op") 607), (.str (Str.ofString "value") 608), (.str (Str.ofString "bits") 609), (.str (Str.ofString "digits") 610)] 0), #[]⟩
noncomputable def o308 (P : Params) : Obj := ⟨(.type "tuple"), none, (.seq #[] 0), #[]⟩
noncomputable def o309 (P : Params) : Obj := ⟨.none, none, (.func (fnS (st 50) (Str.ofString "worth_of_one") (Str.ofString "worth_of_one") 0 [] .none .none .none .none none .none .none 0)), #[]⟩
noncomputable def o310 (P : Params) : Obj := ⟨(.type "code"), none, (.fields #[(.str (Str.ofString "worth_of_one") 604), (.str (Str.ofString "worth_of_one") 605), (.str (Str.ofString "/claim/cut.py") 606), (.int 218 0), (.int 4 0), (.int 0 0), (.int 0 0), (.int 3 0), (.ref 305), (.bool true), (.int 181 0), (.ref 306), .none, (.ref 307), (.ref 308), (.ref 309), (.int 611 0), (.int 218 0), (.str (Str.ofString "/claim/cut.py") 612)]), #[]⟩
noncomputable def o311 (P : Params) : Obj := ⟨(.type "function"), none, (.func (fnS (st 50) (Str.ofString "worth_of_one") (Str.ofString "worth_of_one") 3 [] .none .none .none (.str (Str.ofString "basicplus.worth") 558) none (.ref 310) .none 0)), #[]⟩
noncomputable def o312 (P : Params) : Obj := ⟨(.type "tuple"), none, (.seq #[] 0), #[]⟩
noncomputable def o313 (P : Params) : Obj := ⟨.none, none, (.fields #[]), #[]⟩
noncomputable def o314 (P : Params) : Obj := ⟨(.type "tuple"), none, (.seq #[(.str (Str.ofString "tree") 617), (.str (Str.ofString "bits") 618), (.str (Str.ofString "digits") 619), (.str (Str.ofString "kind") 620), (.str (Str.ofString "value") 621)] 0), #[]⟩
noncomputable def o315 (P : Params) : Obj := ⟨(.type "tuple"), none, (.seq #[] 0), #[]⟩
noncomputable def o316 (P : Params) : Obj := ⟨.none, none, (.func (fnS (st 51) (Str.ofString "worth_of_leaf") (Str.ofString "worth_of_leaf") 0 [] .none .none .none .none none .none .none 0)), #[]⟩
noncomputable def o317 (P : Params) : Obj := ⟨(.type "code"), none, (.fields #[(.str (Str.ofString "worth_of_leaf") 614), (.str (Str.ofString "worth_of_leaf") 615), (.str (Str.ofString "/claim/cut.py") 616), (.int 222 0), (.int 3 0), (.int 0 0), (.int 0 0), (.int 3 0), (.ref 312), (.bool true), (.int 181 0), (.ref 313), .none, (.ref 314), (.ref 315), (.ref 316), (.int 622 0), (.int 222 0), (.str (Str.ofString "/claim/cut.py") 623)]), #[]⟩
noncomputable def o318 (P : Params) : Obj := ⟨(.type "function"), none, (.func (fnS (st 51) (Str.ofString "worth_of_leaf") (Str.ofString "worth_of_leaf") 3 [] .none .none .none (.str (Str.ofString "basicplus.worth") 558) none (.ref 317) .none 0)), #[]⟩
noncomputable def o319 (P : Params) : Obj := ⟨(.type "tuple"), none, (.seq #[] 0), #[]⟩
noncomputable def o320 (P : Params) : Obj := ⟨.none, none, (.fields #[]), #[]⟩
noncomputable def o321 (P : Params) : Obj := ⟨(.type "tuple"), none, (.seq #[(.str (Str.ofString "tree") 628), (.str (Str.ofString "parts") 629), (.str (Str.ofString "hooks") 630), (.str (Str.ofString "kind") 631)] 0), #[]⟩
noncomputable def o322 (P : Params) : Obj := ⟨(.type "tuple"), none, (.seq #[] 0), #[]⟩
noncomputable def o323 (P : Params) : Obj := ⟨.none, none, (.func (fnS (st 52) (Str.ofString "worth_of_tree") (Str.ofString "worth_of_tree") 0 [] .none .none .none .none none .none .none 0)), #[]⟩
noncomputable def o324 (P : Params) : Obj := ⟨(.type "code"), none, (.fields #[(.str (Str.ofString "worth_of_tree") 625), (.str (Str.ofString "worth_of_tree") 626), (.str (Str.ofString "/claim/cut.py") 627), (.int 227 0), (.int 3 0), (.int 0 0), (.int 0 0), (.int 3 0), (.ref 319), (.bool true), (.int 181 0), (.ref 320), .none, (.ref 321), (.ref 322), (.ref 323), (.int 632 0), (.int 227 0), (.str (Str.ofString "/claim/cut.py") 633)]), #[]⟩
noncomputable def o325 (P : Params) : Obj := ⟨(.type "function"), none, (.func (fnS (st 52) (Str.ofString "worth_of_tree") (Str.ofString "worth_of_tree") 3 [] .none .none .none (.str (Str.ofString "basicplus.worth") 558) none (.ref 324) .none 0)), #[]⟩
noncomputable def o326 (P : Params) : Obj := ⟨(.type "tuple"), none, (.seq #[] 0), #[]⟩
noncomputable def o327 (P : Params) : Obj := ⟨.none, none, (.fields #[]), #[]⟩
noncomputable def o328 (P : Params) : Obj := ⟨.none, none, (.func (fnS (st 53) (Str.ofString "worth") (Str.ofString "worth") 0 [] .none .none .none .none none .none .none 0)), #[]⟩
noncomputable def o329 (P : Params) : Obj := ⟨(.type "code"), none, (.fields #[(.str (Str.ofString "worth") 635), (.str (Str.ofString "worth") 636), (.str (Str.ofString "/claim/cut.py") 637), (.int 240 0), (.int 2 0), (.int 0 0), (.int 0 0), (.int 3 0), (.ref 326), (.bool true), (.int 181 0), (.ref 327), .none, .none, .none, (.ref 328), (.int 638 0), (.int 240 0), (.str (Str.ofString "/claim/cut.py") 639)]), #[]⟩
noncomputable def o330 (P : Params) : Obj := ⟨(.type "function"), none, (.func (fnS (st 53) (Str.ofString "worth") (Str.ofString "worth") 3 [] .none .none .none (.str (Str.ofString "basicplus.worth") 558) none (.ref 329) .none 0)), #[]⟩
noncomputable def o331 (P : Params) : Obj := ⟨(.type "tuple"), none, (.seq #[(.str (Str.ofString "whole") 643), (.str (Str.ofString "decimal") 644), (.str (Str.ofString "text") 645)] 0), #[]⟩
noncomputable def o332 (P : Params) : Obj := ⟨(.type "tuple"), none, (.seq #[] 0), #[]⟩
noncomputable def o333 (P : Params) : Obj := ⟨.none, none, (.fields #[]), #[]⟩
noncomputable def o334 (P : Params) : Obj := ⟨(.type "tuple"), none, (.seq #[(.str (Str.ofString "tree") 650), (.str (Str.ofString "bits") 651), (.str (Str.ofString "digits") 652)] 0), #[]⟩
noncomputable def o335 (P : Params) : Obj := ⟨(.type "tuple"), none, (.seq #[] 0), #[]⟩
noncomputable def o336 (P : Params) : Obj := ⟨.none, none, (.func (fnS (st 56) (Str.ofString "leaf_order") (Str.ofString "leaf_order") 0 [] .none .none .none .none none .none .none 0)), #[]⟩
noncomputable def o337 (P : Params) : Obj := ⟨(.type "code"), none, (.fields #[(.str (Str.ofString "leaf_order") 647), (.str (Str.ofString "leaf_order") 648), (.str (Str.ofString "/claim/cut.py") 649), (.int 255 0), (.int 3 0), (.int 0 0), (.int 0 0), (.int 3 0), (.ref 332), (.bool true), (.int 181 0), (.ref 333), .none, (.ref 334), (.ref 335), (.ref 336), (.int 653 0), (.int 255 0), (.str (Str.ofString "/claim/cut.py") 654)]), #[]⟩
noncomputable def o338 (P : Params) : Obj := ⟨(.type "function"), none, (.func (fnS (st 56) (Str.ofString "leaf_order") (Str.ofString "leaf_order") 3 [] .none .none .none (.str (Str.ofString "basicplus.rowcode") 641) none (.ref 337) .none 0)), #[]⟩
noncomputable def o339 (P : Params) : Obj := ⟨(.type "tuple"), none, (.seq #[] 0), #[]⟩
noncomputable def o340 (P : Params) : Obj := ⟨.none, none, (.fields #[]), #[]⟩
noncomputable def o341 (P : Params) : Obj := ⟨(.type "tuple"), none, (.seq #[(.str (Str.ofString "tree") 659), (.str (Str.ofString "bits") 660), (.str (Str.ofString "digits") 661), (.str (Str.ofString "found") 662), (.str (Str.ofString "waiting") 663), (.str (Str.ofString "part") 664), (.str (Str.ofString "kind") 665)] 0), #[]⟩
noncomputable def o342 (P : Params) : Obj := ⟨(.type "tuple"), none, (.seq #[] 0), #[]⟩
noncomputable def o343 (P : Params) : Obj := ⟨.none, none, (.func (fnS (st 57) (Str.ofString "expression_orders") (Str.ofString "expression_orders") 0 [] .none .none .none .none none .none .none 0)), #[]⟩
noncomputable def o344 (P : Params) : Obj := ⟨(.type "code"), none, (.fields #[(.str (Str.ofString "expression_orders") 656), (.str (Str.ofString "expression_orders") 657), (.str (Str.ofString "/claim/cut.py") 658), (.int 260 0), (.int 3 0), (.int 0 0), (.int 0 0), (.int 3 0), (.ref 339), (.bool true), (.int 181 0), (.ref 340), .none, (.ref 341), (.ref 342), (.ref 343), (.int 666 0), (.int 260 0), (.str (Str.ofString "/claim/cut.py") 667)]), #[]⟩
noncomputable def o345 (P : Params) : Obj := ⟨(.type "function"), none, (.func (fnS (st 57) (Str.ofString "expression_orders") (Str.ofString "expression_orders") 3 [] .none .none .none (.str (Str.ofString "basicplus.rowcode") 641) none (.ref 344) .none 0)), #[]⟩
noncomputable def o346 (P : Params) : Obj := ⟨(.type "tuple"), none, (.seq #[] 0), #[]⟩
noncomputable def o347 (P : Params) : Obj := ⟨(.type "builtin_function_or_method"), none, (.fields #[(.builtin "type.__prepare__"), (.type "type")]), #[]⟩
noncomputable def o348 (P : Params) : Obj := ⟨(.type "dict"), none, (.dict #[⟨PyData.keyHash P (Str.ofString "__module__"), .str (Str.ofString "__module__") 678, (.str (Str.ofString "basicplus.hooks") 669)⟩, ⟨PyData.keyHash P (Str.ofString "__qualname__"), .str (Str.ofString "__qualname__") 680, (.str (Str.ofString "PlainHooks") 679)⟩, ⟨PyData.keyHash P (Str.ofString "__firstlineno__"), .str (Str.ofString "__firstlineno__") 682, (.int 281 681)⟩, ⟨PyData.keyHash P (Str.ofString "__init__"), .str (Str.ofString "__init__") 692, (.ref 359)⟩, ⟨PyData.keyHash P (Str.ofString "value_of_name"), .str (Str.ofString "value_of_name") 700, (.ref 366)⟩, ⟨PyData.keyHash P (Str.ofString "told"), .str (Str.ofString "told") 711, (.ref 373)⟩, ⟨PyData.keyHash P (Str.ofString "item_of"), .str (Str.ofString "item_of") 720, (.ref 380)⟩, ⟨PyData.keyHash P (Str.ofString "call"), .str (Str.ofString "call") 729, (.ref 387)⟩, ⟨PyData.keyHash P (Str.ofString "fn"), .str (Str.ofString "fn") 738, (.ref 394)⟩, ⟨PyData.keyHash P (Str.ofString "__static_attributes__"), .str (Str.ofString "__static_attributes__") 743, (.ref 395)⟩] 10), #[]⟩
noncomputable def o349 (P : Params) : Obj := ⟨(.type "tuple"), none, (.seq #[] 0), #[]⟩
noncomputable def o350 (P : Params) : Obj := ⟨.none, none, (.fields #[(.int 283 0), (.int 4 0), (.ref 358), (.int 289 0), (.int 4 0), (.ref 365), (.int 295 0), (.int 4 0), (.ref 372), (.int 302 0), (.int 4 0), (.ref 379), (.int 305 0), (.int 4 0), (.ref 386), (.int 308 0), (.int 4 0), (.ref 393)]), #[]⟩
noncomputable def o351 (P : Params) : Obj := ⟨(.type "code"), none, (.fields #[(.str (Str.ofString "PlainHooks") 673), (.str (Str.ofString "PlainHooks") 674), (.str (Str.ofString "/claim/cut.py") 675), (.int 281 0), (.int 0 0), (.int 0 0), (.int 0 0), (.int 0 0), (.ref 349), (.bool false), (.int 181 0), (.ref 350), .none, .none, .none, .none, (.int 676 0), (.int 281 0), (.str (Str.ofString "/claim/cut.py") 677)]), #[]⟩
noncomputable def o352 (P : Params) : Obj := ⟨(.type "frame"), none, .plain, #[(some (.ref 351)), (some (.ref 3)), (some (.ref 348)), none, (some (.str (Str.ofString "basicplus.hooks") 669)), none, (some (.ref 0))]⟩
noncomputable def o353 (P : Params) : Obj := ⟨(.type "tuple"), none, (.seq #[] 0), #[]⟩
noncomputable def o354 (P : Params) : Obj := ⟨.none, none, (.fields #[]), #[]⟩
noncomputable def o355 (P : Params) : Obj := ⟨(.type "tuple"), none, (.seq #[(.str (Str.ofString "self") 686), (.str (Str.ofString "values") 687), (.str (Str.ofString "bits") 688), (.str (Str.ofString "digits") 689)] 0), #[]⟩
noncomputable def o356 (P : Params) : Obj := ⟨(.type "tuple"), none, (.seq #[] 0), #[]⟩
noncomputable def o357 (P : Params) : Obj := ⟨.none, none, (.func (fnS (sti 59 0) (Str.ofString "__init__") (Str.ofString "PlainHooks.__init__") 0 [] .none .none .none .none none .none .none 0)), #[]⟩
noncomputable def o358 (P : Params) : Obj := ⟨(.type "code"), none, (.fields #[(.str (Str.ofString "__init__") 683), (.str (Str.ofString "PlainHooks.__init__") 684), (.str (Str.ofString "/claim/cut.py") 685), (.int 283 0), (.int 4 0), (.int 0 0), (.int 0 0), (.int 3 0), (.ref 353), (.bool true), (.int 181 0), (.ref 354), .none, (.ref 355), (.ref 356), (.ref 357), (.int 690 0), (.int 283 0), (.str (Str.ofString "/claim/cut.py") 691)]), #[]⟩
noncomputable def o359 (P : Params) : Obj := ⟨(.type "function"), none, (.func (fnS (sti 59 0) (Str.ofString "__init__") (Str.ofString "PlainHooks.__init__") 3 [] .none .none .none (.str (Str.ofString "basicplus.hooks") 669) none (.ref 358) .none 0)), #[]⟩
noncomputable def o360 (P : Params) : Obj := ⟨(.type "tuple"), none, (.seq #[] 0), #[]⟩
noncomputable def o361 (P : Params) : Obj := ⟨.none, none, (.fields #[]), #[]⟩
noncomputable def o362 (P : Params) : Obj := ⟨(.type "tuple"), none, (.seq #[(.str (Str.ofString "self") 696), (.str (Str.ofString "word") 697)] 0), #[]⟩
noncomputable def o363 (P : Params) : Obj := ⟨(.type "tuple"), none, (.seq #[] 0), #[]⟩
noncomputable def o364 (P : Params) : Obj := ⟨.none, none, (.func (fnS (sti 59 1) (Str.ofString "value_of_name") (Str.ofString "PlainHooks.value_of_name") 0 [] .none .none .none .none none .none .none 0)), #[]⟩
noncomputable def o365 (P : Params) : Obj := ⟨(.type "code"), none, (.fields #[(.str (Str.ofString "value_of_name") 693), (.str (Str.ofString "PlainHooks.value_of_name") 694), (.str (Str.ofString "/claim/cut.py") 695), (.int 289 0), (.int 2 0), (.int 0 0), (.int 0 0), (.int 3 0), (.ref 360), (.bool true), (.int 181 0), (.ref 361), .none, (.ref 362), (.ref 363), (.ref 364), (.int 698 0), (.int 289 0), (.str (Str.ofString "/claim/cut.py") 699)]), #[]⟩
noncomputable def o366 (P : Params) : Obj := ⟨(.type "function"), none, (.func (fnS (sti 59 1) (Str.ofString "value_of_name") (Str.ofString "PlainHooks.value_of_name") 3 [] .none .none .none (.str (Str.ofString "basicplus.hooks") 669) none (.ref 365) .none 0)), #[]⟩
noncomputable def o367 (P : Params) : Obj := ⟨(.type "tuple"), none, (.seq #[] 0), #[]⟩
noncomputable def o368 (P : Params) : Obj := ⟨.none, none, (.fields #[]), #[]⟩
noncomputable def o369 (P : Params) : Obj := ⟨(.type "tuple"), none, (.seq #[(.str (Str.ofString "self") 704), (.str (Str.ofString "word") 705), (.str (Str.ofString "args") 706), (.str (Str.ofString "code") 707), (.str (Str.ofString "key") 708)] 0), #[]⟩
noncomputable def o370 (P : Params) : Obj := ⟨(.type "tuple"), none, (.seq #[] 0), #[]⟩
noncomputable def o371 (P : Params) : Obj := ⟨.none, none, (.func (fnS (sti 59 2) (Str.ofString "told") (Str.ofString "PlainHooks.told") 0 [] .none .none .none .none none .none .none 0)), #[]⟩
noncomputable def o372 (P : Params) : Obj := ⟨(.type "code"), none, (.fields #[(.str (Str.ofString "told") 701), (.str (Str.ofString "PlainHooks.told") 702), (.str (Str.ofString "/claim/cut.py") 703), (.int 295 0), (.int 4 0), (.int 0 0), (.int 0 0), (.int 3 0), (.ref 367), (.bool true), (.int 181 0), (.ref 368), .none, (.ref 369), (.ref 370), (.ref 371), (.int 709 0), (.int 295 0), (.str (Str.ofString "/claim/cut.py") 710)]), #[]⟩
noncomputable def o373 (P : Params) : Obj := ⟨(.type "function"), none, (.func (fnS (sti 59 2) (Str.ofString "told") (Str.ofString "PlainHooks.told") 3 [] .none .none .none (.str (Str.ofString "basicplus.hooks") 669) none (.ref 372) .none 0)), #[]⟩
noncomputable def o374 (P : Params) : Obj := ⟨(.type "tuple"), none, (.seq #[] 0), #[]⟩
noncomputable def o375 (P : Params) : Obj := ⟨.none, none, (.fields #[]), #[]⟩
noncomputable def o376 (P : Params) : Obj := ⟨(.type "tuple"), none, (.seq #[(.str (Str.ofString "self") 715), (.str (Str.ofString "word") 716), (.str (Str.ofString "subs") 717)] 0), #[]⟩
noncomputable def o377 (P : Params) : Obj := ⟨(.type "tuple"), none, (.seq #[] 0), #[]⟩
noncomputable def o378 (P : Params) : Obj := ⟨.none, none, (.func (fnS (sti 59 3) (Str.ofString "item_of") (Str.ofString "PlainHooks.item_of") 0 [] .none .none .none .none none .none .none 0)), #[]⟩
noncomputable def o379 (P : Params) : Obj := ⟨(.type "code"), none, (.fields #[(.str (Str.ofString "item_of") 712), (.str (Str.ofString "PlainHooks.item_of") 713), (.str (Str.ofString "/claim/cut.py") 714), (.int 302 0), (.int 3 0), (.int 0 0), (.int 0 0), (.int 3 0), (.ref 374), (.bool true), (.int 181 0), (.ref 375), .none, (.ref 376), (.ref 377), (.ref 378), (.int 718 0), (.int 302 0), (.str (Str.ofString "/claim/cut.py") 719)]), #[]⟩
noncomputable def o380 (P : Params) : Obj := ⟨(.type "function"), none, (.func (fnS (sti 59 3) (Str.ofString "item_of") (Str.ofString "PlainHooks.item_of") 3 [] .none .none .none (.str (Str.ofString "basicplus.hooks") 669) none (.ref 379) .none 0)), #[]⟩
noncomputable def o381 (P : Params) : Obj := ⟨(.type "tuple"), none, (.seq #[] 0), #[]⟩
noncomputable def o382 (P : Params) : Obj := ⟨.none, none, (.fields #[]), #[]⟩
noncomputable def o383 (P : Params) : Obj := ⟨(.type "tuple"), none, (.seq #[(.str (Str.ofString "self") 724), (.str (Str.ofString "word") 725), (.str (Str.ofString "args") 726)] 0), #[]⟩
noncomputable def o384 (P : Params) : Obj := ⟨(.type "tuple"), none, (.seq #[] 0), #[]⟩
noncomputable def o385 (P : Params) : Obj := ⟨.none, none, (.func (fnS (sti 59 4) (Str.ofString "call") (Str.ofString "PlainHooks.call") 0 [] .none .none .none .none none .none .none 0)), #[]⟩
noncomputable def o386 (P : Params) : Obj := ⟨(.type "code"), none, (.fields #[(.str (Str.ofString "call") 721), (.str (Str.ofString "PlainHooks.call") 722), (.str (Str.ofString "/claim/cut.py") 723), (.int 305 0), (.int 3 0), (.int 0 0), (.int 0 0), (.int 3 0), (.ref 381), (.bool true), (.int 181 0), (.ref 382), .none, (.ref 383), (.ref 384), (.ref 385), (.int 727 0), (.int 305 0), (.str (Str.ofString "/claim/cut.py") 728)]), #[]⟩
noncomputable def o387 (P : Params) : Obj := ⟨(.type "function"), none, (.func (fnS (sti 59 4) (Str.ofString "call") (Str.ofString "PlainHooks.call") 3 [] .none .none .none (.str (Str.ofString "basicplus.hooks") 669) none (.ref 386) .none 0)), #[]⟩
noncomputable def o388 (P : Params) : Obj := ⟨(.type "tuple"), none, (.seq #[] 0), #[]⟩
noncomputable def o389 (P : Params) : Obj := ⟨.none, none, (.fields #[]), #[]⟩
noncomputable def o390 (P : Params) : Obj := ⟨(.type "tuple"), none, (.seq #[(.str (Str.ofString "self") 733), (.str (Str.ofString "word") 734), (.str (Str.ofString "args") 735)] 0), #[]⟩
noncomputable def o391 (P : Params) : Obj := ⟨(.type "tuple"), none, (.seq #[] 0), #[]⟩
noncomputable def o392 (P : Params) : Obj := ⟨.none, none, (.func (fnS (sti 59 5) (Str.ofString "fn") (Str.ofString "PlainHooks.fn") 0 [] .none .none .none .none none .none .none 0)), #[]⟩
noncomputable def o393 (P : Params) : Obj := ⟨(.type "code"), none, (.fields #[(.str (Str.ofString "fn") 730), (.str (Str.ofString "PlainHooks.fn") 731), (.str (Str.ofString "/claim/cut.py") 732), (.int 308 0), (.int 3 0), (.int 0 0), (.int 0 0), (.int 3 0), (.ref 388), (.bool true), (.int 181 0), (.ref 389), .none, (.ref 390), (.ref 391), (.ref 392), (.int 736 0), (.int 308 0), (.str (Str.ofString "/claim/cut.py") 737)]), #[]⟩
noncomputable def o394 (P : Params) : Obj := ⟨(.type "function"), none, (.func (fnS (sti 59 5) (Str.ofString "fn") (Str.ofString "PlainHooks.fn") 3 [] .none .none .none (.str (Str.ofString "basicplus.hooks") 669) none (.ref 393) .none 0)), #[]⟩
noncomputable def o395 (P : Params) : Obj := ⟨(.type "tuple"), none, (.seq #[(.str (Str.ofString "asked") 739), (.str (Str.ofString "bits") 740), (.str (Str.ofString "digits") 741), (.str (Str.ofString "values") 742)] 0), #[]⟩
noncomputable def o396 (P : Params) : Obj := ⟨(.type "dict"), none, (.dict #[⟨PyData.keyHash P (Str.ofString "__module__"), .str (Str.ofString "__module__") 678, (.str (Str.ofString "basicplus.hooks") 669)⟩, ⟨PyData.keyHash P (Str.ofString "__firstlineno__"), .str (Str.ofString "__firstlineno__") 682, (.int 281 681)⟩, ⟨PyData.keyHash P (Str.ofString "__init__"), .str (Str.ofString "__init__") 692, (.ref 359)⟩, ⟨PyData.keyHash P (Str.ofString "value_of_name"), .str (Str.ofString "value_of_name") 700, (.ref 366)⟩, ⟨PyData.keyHash P (Str.ofString "told"), .str (Str.ofString "told") 711, (.ref 373)⟩, ⟨PyData.keyHash P (Str.ofString "item_of"), .str (Str.ofString "item_of") 720, (.ref 380)⟩, ⟨PyData.keyHash P (Str.ofString "call"), .str (Str.ofString "call") 729, (.ref 387)⟩, ⟨PyData.keyHash P (Str.ofString "fn"), .str (Str.ofString "fn") 738, (.ref 394)⟩, ⟨PyData.keyHash P (Str.ofString "__static_attributes__"), .str (Str.ofString "__static_attributes__") 743, (.ref 395)⟩, ⟨PyData.keyHash P (Str.ofString "__dict__"), .str (Str.ofString "__dict__") 745, (.ref 398)⟩, ⟨PyData.keyHash P (Str.ofString "__weakref__"), .str (Str.ofString "__weakref__") 747, (.ref 399)⟩, ⟨PyData.keyHash P (Str.ofString "__doc__"), .str (Str.ofString "__doc__") 748, .none⟩] 4), #[]⟩
noncomputable def o397 (P : Params) : Obj := ⟨(.type "type"), none, (.cls { name := (Str.ofString "PlainHooks"), bases := [(.type "object")], mro := [(.ref 397), (.type "object")], ns := 396, qualname := (Str.ofString "PlainHooks"), hasDict := true, slotNames := [], subclasses := [], abstract := false, collection := none, hasDel := false }), #[none, none, (some (.str (Str.ofString "PlainHooks") 671)), (some (.str (Str.ofString "PlainHooks") 679)), (some (.builtin "object.__new__")), (some (.bool true))]⟩
noncomputable def o398 (P : Params) : Obj := ⟨(.type "getset_descriptor"), none, (.fields #[(.str (Str.ofString "__dict__") 744), (.ref 397), (.builtin "function.__dict__"), (.builtin "function.__dict__#set")]), #[]⟩
noncomputable def o399 (P : Params) : Obj := ⟨(.type "getset_descriptor"), none, (.fields #[(.str (Str.ofString "__weakref__") 746), (.ref 397), (.builtin "ExceptionGroup.__weakref__"), .none]), #[]⟩
noncomputable def o400 (P : Params) : Obj := ⟨(.type "super"), none, (.fields #[(.ref 397), (.ref 397), (.ref 397)]), #[]⟩
noncomputable def o401 (P : Params) : Obj := ⟨(.type "builtin_function_or_method"), none, (.fields #[(.builtin "object.__init_subclass__"), (.ref 397)]), #[]⟩
noncomputable def o402 (P : Params) : Obj := ⟨(.type "tuple"), none, (.seq #[] 0), #[]⟩
noncomputable def o403 (P : Params) : Obj := ⟨.none, none, (.fields #[]), #[]⟩
noncomputable def o404 (P : Params) : Obj := ⟨(.type "tuple"), none, (.seq #[(.str (Str.ofString "bag") 756), (.str (Str.ofString "below") 757), (.str (Str.ofString "spot") 758)] 0), #[]⟩
noncomputable def o405 (P : Params) : Obj := ⟨(.type "tuple"), none, (.seq #[] 0), #[]⟩
noncomputable def o406 (P : Params) : Obj := ⟨.none, none, (.func (fnS (st 61) (Str.ofString "_law_got") (Str.ofString "_law_got") 0 [] .none .none .none .none none .none .none 0)), #[]⟩
noncomputable def o407 (P : Params) : Obj := ⟨(.type "code"), none, (.fields #[(.str (Str.ofString "_law_got") 753), (.str (Str.ofString "_law_got") 754), (.str (Str.ofString "/claim/cut.py") 755), (.int 311 0), (.int 2 0), (.int 0 0), (.int 0 0), (.int 3 0), (.ref 402), (.bool true), (.int 181 0), (.ref 403), .none, (.ref 404), (.ref 405), (.ref 406), (.int 759 0), (.int 311 0), (.str (Str.ofString "/claim/cut.py") 760)]), #[]⟩
noncomputable def o408 (P : Params) : Obj := ⟨(.type "function"), none, (.func (fnS (st 61) (Str.ofString "_law_got") (Str.ofString "_law_got") 3 [] .none .none .none (.str (Str.ofString "law_xm0021_01") 751) none (.ref 407) .none 0)), #[]⟩
noncomputable def o409 (P : Params) : Obj := ⟨(.type "tuple"), none, (.seq #[] 0), #[]⟩
noncomputable def o410 (P : Params) : Obj := ⟨.none, none, (.fields #[]), #[]⟩
noncomputable def o411 (P : Params) : Obj := ⟨.none, none, (.func (fnS (st 62) (Str.ofString "_law_drawn_tree") (Str.ofString "_law_drawn_tree") 0 [] .none .none .none .none none .none .none 0)), #[]⟩
noncomputable def o412 (P : Params) : Obj := ⟨(.type "code"), none, (.fields #[(.str (Str.ofString "_law_drawn_tree") 762), (.str (Str.ofString "_law_drawn_tree") 763), (.str (Str.ofString "/claim/cut.py") 764), (.int 315 0), (.int 1 0), (.int 0 0), (.int 0 0), (.int 3 0), (.ref 409), (.bool true), (.int 181 0), (.ref 410), .none, .none, .none, (.ref 411), (.int 765 0), (.int 315 0), (.str (Str.ofString "/claim/cut.py") 766)]), #[]⟩
noncomputable def o413 (P : Params) : Obj := ⟨(.type "function"), none, (.func (fnS (st 62) (Str.ofString "_law_drawn_tree") (Str.ofString "_law_drawn_tree") 3 [] .none .none .none (.str (Str.ofString "law_xm0021_01") 751) none (.ref 412) .none 0)), #[]⟩
noncomputable def o414 (P : Params) : Obj := ⟨(.type "tuple"), none, (.seq #[] 0), #[]⟩
noncomputable def o415 (P : Params) : Obj := ⟨.none, none, (.fields #[]), #[]⟩
noncomputable def o416 (P : Params) : Obj := ⟨(.type "tuple"), none, (.seq #[(.str (Str.ofString "tree") 771), (.str (Str.ofString "found") 772), (.str (Str.ofString "one") 773), (.str (Str.ofString "other") 774)] 0), #[]⟩
noncomputable def o417 (P : Params) : Obj := ⟨(.type "tuple"), none, (.seq #[] 0), #[]⟩
noncomputable def o418 (P : Params) : Obj := ⟨.none, none, (.func (fnS (st 63) (Str.ofString "_law_exchanged") (Str.ofString "_law_exchanged") 0 [] .none .none .none .none none .none .none 0)), #[]⟩
noncomputable def o419 (P : Params) : Obj := ⟨(.type "code"), none, (.fields #[(.str (Str.ofString "_law_exchanged") 768), (.str (Str.ofString "_law_exchanged") 769), (.str (Str.ofString "/claim/cut.py") 770), (.int 322 0), (.int 1 0), (.int 0 0), (.int 0 0), (.int 3 0), (.ref 414), (.bool true), (.int 181 0), (.ref 415), .none, (.ref 416), (.ref 417), (.ref 418), (.int 775 0), (.int 322 0), (.str (Str.ofString "/claim/cut.py") 776)]), #[]⟩
noncomputable def o420 (P : Params) : Obj := ⟨(.type "function"), none, (.func (fnS (st 63) (Str.ofString "_law_exchanged") (Str.ofString "_law_exchanged") 3 [] .none .none .none (.str (Str.ofString "law_xm0021_01") 751) none (.ref 419) .none 0)), #[]⟩
noncomputable def o421 (P : Params) : Obj := ⟨(.type "tuple"), none, (.seq #[] 0), #[]⟩
noncomputable def o422 (P : Params) : Obj := ⟨.none, none, (.fields #[]), #[]⟩
noncomputable def o423 (P : Params) : Obj := ⟨(.type "tuple"), none, (.seq #[(.str (Str.ofString "tree") 781)] 0), #[]⟩
noncomputable def o424 (P : Params) : Obj := ⟨(.type "tuple"), none, (.seq #[] 0), #[]⟩
noncomputable def o425 (P : Params) : Obj := ⟨.none, none, (.func (fnS (st 64) (Str.ofString "_law_need") (Str.ofString "_law_need") 0 [] .none .none .none .none none .none .none 0)), #[]⟩
noncomputable def o426 (P : Params) : Obj := ⟨(.type "code"), none, (.fields #[(.str (Str.ofString "_law_need") 778), (.str (Str.ofString "_law_need") 779), (.str (Str.ofString "/claim/cut.py") 780), (.int 330 0), (.int 1 0), (.int 0 0), (.int 0 0), (.int 3 0), (.ref 421), (.bool true), (.int 181 0), (.ref 422), .none, (.ref 423), (.ref 424), (.ref 425), (.int 782 0), (.int 330 0), (.str (Str.ofString "/claim/cut.py") 783)]), #[]⟩
noncomputable def o427 (P : Params) : Obj := ⟨(.type "function"), none, (.func (fnS (st 64) (Str.ofString "_law_need") (Str.ofString "_law_need") 3 [] .none .none .none (.str (Str.ofString "law_xm0021_01") 751) none (.ref 426) .none 0)), #[]⟩
noncomputable def o428 (P : Params) : Obj := ⟨(.type "tuple"), none, (.seq #[] 0), #[]⟩
noncomputable def o429 (P : Params) : Obj := ⟨.none, none, (.fields #[]), #[]⟩
noncomputable def o430 (P : Params) : Obj := ⟨(.type "tuple"), none, (.seq #[(.str (Str.ofString "tree") 788), (.str (Str.ofString "one") 789), (.str (Str.ofString "other") 790)] 0), #[]⟩
noncomputable def o431 (P : Params) : Obj := ⟨(.type "tuple"), none, (.seq #[] 0), #[]⟩
noncomputable def o432 (P : Params) : Obj := ⟨.none, none, (.func (fnS (st 65) (Str.ofString "_law_strahler") (Str.ofString "_law_strahler") 0 [] .none .none .none .none none .none .none 0)), #[]⟩
noncomputable def o433 (P : Params) : Obj := ⟨(.type "code"), none, (.fields #[(.str (Str.ofString "_law_strahler") 785), (.str (Str.ofString "_law_strahler") 786), (.str (Str.ofString "/claim/cut.py") 787), (.int 332 0), (.int 1 0), (.int 0 0), (.int 0 0), (.int 3 0), (.ref 428), (.bool true), (.int 181 0), (.ref 429), .none, (.ref 430), (.ref 431), (.ref 432), (.int 791 0), (.int 332 0), (.str (Str.ofString "/claim/cut.py") 792)]), #[]⟩
noncomputable def o434 (P : Params) : Obj := ⟨(.type "function"), none, (.func (fnS (st 65) (Str.ofString "_law_strahler") (Str.ofString "_law_strahler") 3 [] .none .none .none (.str (Str.ofString "law_xm0021_01") 751) none (.ref 433) .none 0)), #[]⟩
noncomputable def o435 (P : Params) : Obj := ⟨(.type "tuple"), none, (.seq #[] 0), #[]⟩
noncomputable def o436 (P : Params) : Obj := ⟨.none, none, (.fields #[]), #[]⟩
noncomputable def o437 (P : Params) : Obj := ⟨(.type "tuple"), none, (.seq #[(.str (Str.ofString "tree") 797)] 0), #[]⟩
noncomputable def o438 (P : Params) : Obj := ⟨(.type "tuple"), none, (.seq #[] 0), #[]⟩
noncomputable def o439 (P : Params) : Obj := ⟨.none, none, (.func (fnS (st 66) (Str.ofString "_law_names") (Str.ofString "_law_names") 0 [] .none .none .none .none none .none .none 0)), #[]⟩
noncomputable def o440 (P : Params) : Obj := ⟨(.type "code"), none, (.fields #[(.str (Str.ofString "_law_names") 794), (.str (Str.ofString "_law_names") 795), (.str (Str.ofString "/claim/cut.py") 796), (.int 339 0), (.int 1 0), (.int 0 0), (.int 0 0), (.int 3 0), (.ref 435), (.bool true), (.int 181 0), (.ref 436), .none, (.ref 437), (.ref 438), (.ref 439), (.int 798 0), (.int 339 0), (.str (Str.ofString "/claim/cut.py") 799)]), #[]⟩
noncomputable def o441 (P : Params) : Obj := ⟨(.type "function"), none, (.func (fnS (st 66) (Str.ofString "_law_names") (Str.ofString "_law_names") 3 [] .none .none .none (.str (Str.ofString "law_xm0021_01") 751) none (.ref 440) .none 0)), #[]⟩
noncomputable def o442 (P : Params) : Obj := ⟨(.type "tuple"), none, (.seq #[] 0), #[]⟩
noncomputable def o443 (P : Params) : Obj := ⟨.none, none, (.fields #[]), #[]⟩
noncomputable def o444 (P : Params) : Obj := ⟨(.type "tuple"), none, (.seq #[(.str (Str.ofString "orders") 804), (.str (Str.ofString "values") 805), (.str (Str.ofString "pile") 806), (.str (Str.ofString "most") 807), (.str (Str.ofString "order") 808), (.str (Str.ofString "other") 809)] 0), #[]⟩
noncomputable def o445 (P : Params) : Obj := ⟨(.type "tuple"), none, (.seq #[] 0), #[]⟩
noncomputable def o446 (P : Params) : Obj := ⟨.none, none, (.func (fnS (st 67) (Str.ofString "_law_done") (Str.ofString "_law_done") 0 [] .none .none .none .none none .none .none 0)), #[]⟩
noncomputable def o447 (P : Params) : Obj := ⟨(.type "code"), none, (.fields #[(.str (Str.ofString "_law_done") 801), (.str (Str.ofString "_law_done") 802), (.str (Str.ofString "/claim/cut.py") 803), (.int 341 0), (.int 2 0), (.int 0 0), (.int 0 0), (.int 3 0), (.ref 442), (.bool true), (.int 181 0), (.ref 443), .none, (.ref 444), (.ref 445), (.ref 446), (.int 810 0), (.int 341 0), (.str (Str.ofString "/claim/cut.py") 811)]), #[]⟩
noncomputable def o448 (P : Params) : Obj := ⟨(.type "function"), none, (.func (fnS (st 67) (Str.ofString "_law_done") (Str.ofString "_law_done") 3 [] .none .none .none (.str (Str.ofString "law_xm0021_01") 751) none (.ref 447) .none 0)), #[]⟩
noncomputable def o449 (P : Params) : Obj := ⟨(.type "tuple"), none, (.seq #[] 0), #[]⟩
noncomputable def o450 (P : Params) : Obj := ⟨.none, none, (.fields #[]), #[]⟩
noncomputable def o451 (P : Params) : Obj := ⟨.none, none, (.func (fnS (st 68) (Str.ofString "law") (Str.ofString "law") 0 [] .none .none .none .none none .none .none 0)), #[]⟩
noncomputable def o452 (P : Params) : Obj := ⟨(.type "code"), none, (.fields #[(.str (Str.ofString "law") 813), (.str (Str.ofString "law") 814), (.str (Str.ofString "/claim/cut.py") 815), (.int 351 0), (.int 1 0), (.int 0 0), (.int 0 0), (.int 3 0), (.ref 449), (.bool true), (.int 181 0), (.ref 450), .none, .none, .none, (.ref 451), (.int 816 0), (.int 351 0), (.str (Str.ofString "/claim/cut.py") 817)]), #[]⟩
noncomputable def o453 (P : Params) : Obj := ⟨(.type "function"), none, (.func (fnS (st 68) (Str.ofString "law") (Str.ofString "law") 3 [] .none .none .none (.str (Str.ofString "law_xm0021_01") 751) none (.ref 452) .none 0)), #[]⟩
set_option maxRecDepth 100000 in
noncomputable def base (P : Params) : List Obj := o0 P :: o1 P :: o2 P :: o3 P :: o4 P :: o5 P :: o6 P :: o7 P :: o8 P :: o9 P :: o10 P :: o11 P :: o12 P :: o13 P :: o14 P :: o15 P :: o16 P :: o17 P :: o18 P :: o19 P :: o20 P :: o21 P :: o22 P :: o23 P :: o24 P :: o25 P :: o26 P :: o27 P :: o28 P :: o29 P :: o30 P :: o31 P :: o32 P :: o33 P :: o34 P :: o35 P :: o36 P :: o37 P :: o38 P :: o39 P :: o40 P :: o41 P :: o42 P :: o43 P :: o44 P :: o45 P :: o46 P :: o47 P :: o48 P :: o49 P :: o50 P :: o51 P :: o52 P :: o53 P :: o54 P :: o55 P :: o56 P :: o57 P :: o58 P :: o59 P :: o60 P :: o61 P :: o62 P :: o63 P :: o64 P :: o65 P :: o66 P :: o67 P :: o68 P :: o69 P :: o70 P :: o71 P :: o72 P :: o73 P :: o74 P :: o75 P :: o76 P :: o77 P :: o78 P :: o79 P :: o80 P :: o81 P :: o82 P :: o83 P :: o84 P :: o85 P :: o86 P :: o87 P :: o88 P :: o89 P :: o90 P :: o91 P :: o92 P :: o93 P :: o94 P :: o95 P :: o96 P :: o97 P :: o98 P :: o99 P :: o100 P :: o101 P :: o102 P :: o103 P :: o104 P :: o105 P :: o106 P :: o107 P :: o108 P :: o109 P :: o110 P :: o111 P :: o112 P :: o113 P :: o114 P :: o115 P :: o116 P :: o117 P :: o118 P :: o119 P :: o120 P :: o121 P :: o122 P :: o123 P :: o124 P :: o125 P :: o126 P :: o127 P :: o128 P :: o129 P :: o130 P :: o131 P :: o132 P :: o133 P :: o134 P :: o135 P :: o136 P :: o137 P :: o138 P :: o139 P :: o140 P :: o141 P :: o142 P :: o143 P :: o144 P :: o145 P :: o146 P :: o147 P :: o148 P :: o149 P :: o150 P :: o151 P :: o152 P :: o153 P :: o154 P :: o155 P :: o156 P :: o157 P :: o158 P :: o159 P :: o160 P :: o161 P :: o162 P :: o163 P :: o164 P :: o165 P :: o166 P :: o167 P :: o168 P :: o169 P :: o170 P :: o171 P :: o172 P :: o173 P :: o174 P :: o175 P :: o176 P :: o177 P :: o178 P :: o179 P :: o180 P :: o181 P :: o182 P :: o183 P :: o184 P :: o185 P :: o186 P :: o187 P :: o188 P :: o189 P :: o190 P :: o191 P :: o192 P :: o193 P :: o194 P :: o195 P :: o196 P :: o197 P :: o198 P :: o199 P :: o200 P :: o201 P :: o202 P :: o203 P :: o204 P :: o205 P :: o206 P :: o207 P :: o208 P :: o209 P :: o210 P :: o211 P :: o212 P :: o213 P :: o214 P :: o215 P :: o216 P :: o217 P :: o218 P :: o219 P :: o220 P :: o221 P :: o222 P :: o223 P :: o224 P :: o225 P :: o226 P :: o227 P :: o228 P :: o229 P :: o230 P :: o231 P :: o232 P :: o233 P :: o234 P :: o235 P :: o236 P :: o237 P :: o238 P :: o239 P :: o240 P :: o241 P :: o242 P :: o243 P :: o244 P :: o245 P :: o246 P :: o247 P :: o248 P :: o249 P :: o250 P :: o251 P :: o252 P :: o253 P :: o254 P :: o255 P :: o256 P :: o257 P :: o258 P :: o259 P :: o260 P :: o261 P :: o262 P :: o263 P :: o264 P :: o265 P :: o266 P :: o267 P :: o268 P :: o269 P :: o270 P :: o271 P :: o272 P :: o273 P :: o274 P :: o275 P :: o276 P :: o277 P :: o278 P :: o279 P :: o280 P :: o281 P :: o282 P :: o283 P :: o284 P :: o285 P :: o286 P :: o287 P :: o288 P :: o289 P :: o290 P :: o291 P :: o292 P :: o293 P :: o294 P :: o295 P :: o296 P :: o297 P :: o298 P :: o299 P :: o300 P :: o301 P :: o302 P :: o303 P :: o304 P :: o305 P :: o306 P :: o307 P :: o308 P :: o309 P :: o310 P :: o311 P :: o312 P :: o313 P :: o314 P :: o315 P :: o316 P :: o317 P :: o318 P :: o319 P :: o320 P :: o321 P :: o322 P :: o323 P :: o324 P :: o325 P :: o326 P :: o327 P :: o328 P :: o329 P :: o330 P :: o331 P :: o332 P :: o333 P :: o334 P :: o335 P :: o336 P :: o337 P :: o338 P :: o339 P :: o340 P :: o341 P :: o342 P :: o343 P :: o344 P :: o345 P :: o346 P :: o347 P :: o348 P :: o349 P :: o350 P :: o351 P :: o352 P :: o353 P :: o354 P :: o355 P :: o356 P :: o357 P :: o358 P :: o359 P :: o360 P :: o361 P :: o362 P :: o363 P :: o364 P :: o365 P :: o366 P :: o367 P :: o368 P :: o369 P :: o370 P :: o371 P :: o372 P :: o373 P :: o374 P :: o375 P :: o376 P :: o377 P :: o378 P :: o379 P :: o380 P :: o381 P :: o382 P :: o383 P :: o384 P :: o385 P :: o386 P :: o387 P :: o388 P :: o389 P :: o390 P :: o391 P :: o392 P :: o393 P :: o394 P :: o395 P :: o396 P :: o397 P :: o398 P :: o399 P :: o400 P :: o401 P :: o402 P :: o403 P :: o404 P :: o405 P :: o406 P :: o407 P :: o408 P :: o409 P :: o410 P :: o411 P :: o412 P :: o413 P :: o414 P :: o415 P :: o416 P :: o417 P :: o418 P :: o419 P :: o420 P :: o421 P :: o422 P :: o423 P :: o424 P :: o425 P :: o426 P :: o427 P :: o428 P :: o429 P :: o430 P :: o431 P :: o432 P :: o433 P :: o434 P :: o435 P :: o436 P :: o437 P :: o438 P :: o439 P :: o440 P :: o441 P :: o442 P :: o443 P :: o444 P :: o445 P :: o446 P :: o447 P :: o448 P :: o449 P :: o450 P :: o451 P :: o452 P :: o453 P :: []
set_option maxRecDepth 100000 in
noncomputable def K (P : Params) : Frag := (nat_lit 2, o2 P) :: (nat_lit 3, o3 P) :: (nat_lit 15, o15 P) :: (nat_lit 18, o18 P) :: (nat_lit 23, o23 P) :: (nat_lit 24, o24 P) :: (nat_lit 25, o25 P) :: (nat_lit 27, o27 P) :: (nat_lit 28, o28 P) :: (nat_lit 30, o30 P) :: (nat_lit 31, o31 P) :: (nat_lit 32, o32 P) :: (nat_lit 33, o33 P) :: (nat_lit 34, o34 P) :: (nat_lit 35, o35 P) :: (nat_lit 38, o38 P) :: (nat_lit 40, o40 P) :: (nat_lit 41, o41 P) :: (nat_lit 43, o43 P) :: (nat_lit 44, o44 P) :: (nat_lit 45, o45 P) :: (nat_lit 47, o47 P) :: (nat_lit 48, o48 P) :: (nat_lit 50, o50 P) :: (nat_lit 51, o51 P) :: (nat_lit 52, o52 P) :: (nat_lit 54, o54 P) :: (nat_lit 55, o55 P) :: (nat_lit 57, o57 P) :: (nat_lit 58, o58 P) :: (nat_lit 59, o59 P) :: (nat_lit 61, o61 P) :: (nat_lit 62, o62 P) :: (nat_lit 64, o64 P) :: (nat_lit 65, o65 P) :: (nat_lit 66, o66 P) :: (nat_lit 68, o68 P) :: (nat_lit 69, o69 P) :: (nat_lit 71, o71 P) :: (nat_lit 72, o72 P) :: (nat_lit 73, o73 P) :: (nat_lit 75, o75 P) :: (nat_lit 76, o76 P) :: (nat_lit 78, o78 P) :: (nat_lit 79, o79 P) :: (nat_lit 80, o80 P) :: (nat_lit 82, o82 P) :: (nat_lit 83, o83 P) :: (nat_lit 85, o85 P) :: (nat_lit 86, o86 P) :: (nat_lit 87, o87 P) :: (nat_lit 89, o89 P) :: (nat_lit 90, o90 P) :: (nat_lit 92, o92 P) :: (nat_lit 93, o93 P) :: (nat_lit 94, o94 P) :: (nat_lit 96, o96 P) :: (nat_lit 97, o97 P) :: (nat_lit 99, o99 P) :: (nat_lit 100, o100 P) :: (nat_lit 101, o101 P) :: (nat_lit 103, o103 P) :: (nat_lit 104, o104 P) :: (nat_lit 106, o106 P) :: (nat_lit 107, o107 P) :: (nat_lit 108, o108 P) :: (nat_lit 109, o109 P) :: (nat_lit 111, o111 P) :: (nat_lit 112, o112 P) :: (nat_lit 114, o114 P) :: (nat_lit 115, o115 P) :: (nat_lit 116, o116 P) :: (nat_lit 118, o118 P) :: (nat_lit 119, o119 P) :: (nat_lit 121, o121 P) :: (nat_lit 122, o122 P) :: (nat_lit 123, o123 P) :: (nat_lit 125, o125 P) :: (nat_lit 126, o126 P) :: (nat_lit 128, o128 P) :: (nat_lit 129, o129 P) :: (nat_lit 130, o130 P) :: (nat_lit 132, o132 P) :: (nat_lit 133, o133 P) :: (nat_lit 135, o135 P) :: (nat_lit 136, o136 P) :: (nat_lit 137, o137 P) :: (nat_lit 139, o139 P) :: (nat_lit 140, o140 P) :: (nat_lit 142, o142 P) :: (nat_lit 143, o143 P) :: (nat_lit 144, o144 P) :: (nat_lit 146, o146 P) :: (nat_lit 147, o147 P) :: (nat_lit 149, o149 P) :: (nat_lit 150, o150 P) :: (nat_lit 151, o151 P) :: (nat_lit 153, o153 P) :: (nat_lit 154, o154 P) :: (nat_lit 156, o156 P) :: (nat_lit 157, o157 P) :: (nat_lit 158, o158 P) :: (nat_lit 160, o160 P) :: (nat_lit 161, o161 P) :: (nat_lit 163, o163 P) :: (nat_lit 164, o164 P) :: (nat_lit 165, o165 P) :: (nat_lit 167, o167 P) :: (nat_lit 168, o168 P) :: (nat_lit 170, o170 P) :: (nat_lit 171, o171 P) :: (nat_lit 172, o172 P) :: (nat_lit 174, o174 P) :: (nat_lit 175, o175 P) :: (nat_lit 177, o177 P) :: (nat_lit 178, o178 P) :: (nat_lit 179, o179 P) :: (nat_lit 181, o181 P) :: (nat_lit 182, o182 P) :: (nat_lit 184, o184 P) :: (nat_lit 185, o185 P) :: (nat_lit 186, o186 P) :: (nat_lit 188, o188 P) :: (nat_lit 189, o189 P) :: (nat_lit 191, o191 P) :: (nat_lit 192, o192 P) :: (nat_lit 193, o193 P) :: (nat_lit 195, o195 P) :: (nat_lit 196, o196 P) :: (nat_lit 198, o198 P) :: (nat_lit 199, o199 P) :: (nat_lit 200, o200 P) :: (nat_lit 202, o202 P) :: (nat_lit 203, o203 P) :: (nat_lit 205, o205 P) :: (nat_lit 206, o206 P) :: (nat_lit 207, o207 P) :: (nat_lit 209, o209 P) :: (nat_lit 210, o210 P) :: (nat_lit 212, o212 P) :: (nat_lit 213, o213 P) :: (nat_lit 214, o214 P) :: (nat_lit 216, o216 P) :: (nat_lit 217, o217 P) :: (nat_lit 219, o219 P) :: (nat_lit 220, o220 P) :: (nat_lit 221, o221 P) :: (nat_lit 223, o223 P) :: (nat_lit 224, o224 P) :: (nat_lit 226, o226 P) :: (nat_lit 227, o227 P) :: (nat_lit 228, o228 P) :: (nat_lit 230, o230 P) :: (nat_lit 231, o231 P) :: (nat_lit 233, o233 P) :: (nat_lit 234, o234 P) :: (nat_lit 235, o235 P) :: (nat_lit 237, o237 P) :: (nat_lit 238, o238 P) :: (nat_lit 240, o240 P) :: (nat_lit 241, o241 P) :: (nat_lit 242, o242 P) :: (nat_lit 244, o244 P) :: (nat_lit 245, o245 P) :: (nat_lit 247, o247 P) :: (nat_lit 248, o248 P) :: (nat_lit 249, o249 P) :: (nat_lit 251, o251 P) :: (nat_lit 252, o252 P) :: (nat_lit 254, o254 P) :: (nat_lit 255, o255 P) :: (nat_lit 256, o256 P) :: (nat_lit 258, o258 P) :: (nat_lit 259, o259 P) :: (nat_lit 261, o261 P) :: (nat_lit 262, o262 P) :: (nat_lit 263, o263 P) :: (nat_lit 265, o265 P) :: (nat_lit 266, o266 P) :: (nat_lit 268, o268 P) :: (nat_lit 269, o269 P) :: (nat_lit 270, o270 P) :: (nat_lit 272, o272 P) :: (nat_lit 273, o273 P) :: (nat_lit 275, o275 P) :: (nat_lit 276, o276 P) :: (nat_lit 277, o277 P) :: (nat_lit 278, o278 P) :: (nat_lit 279, o279 P) :: (nat_lit 281, o281 P) :: (nat_lit 282, o282 P) :: (nat_lit 284, o284 P) :: (nat_lit 285, o285 P) :: (nat_lit 286, o286 P) :: (nat_lit 288, o288 P) :: (nat_lit 289, o289 P) :: (nat_lit 291, o291 P) :: (nat_lit 292, o292 P) :: (nat_lit 293, o293 P) :: (nat_lit 295, o295 P) :: (nat_lit 296, o296 P) :: (nat_lit 298, o298 P) :: (nat_lit 299, o299 P) :: (nat_lit 300, o300 P) :: (nat_lit 303, o303 P) :: (nat_lit 304, o304 P) :: (nat_lit 305, o305 P) :: (nat_lit 307, o307 P) :: (nat_lit 308, o308 P) :: (nat_lit 310, o310 P) :: (nat_lit 311, o311 P) :: (nat_lit 312, o312 P) :: (nat_lit 314, o314 P) :: (nat_lit 315, o315 P) :: (nat_lit 317, o317 P) :: (nat_lit 318, o318 P) :: (nat_lit 319, o319 P) :: (nat_lit 321, o321 P) :: (nat_lit 322, o322 P) :: (nat_lit 324, o324 P) :: (nat_lit 325, o325 P) :: (nat_lit 326, o326 P) :: (nat_lit 329, o329 P) :: (nat_lit 330, o330 P) :: (nat_lit 331, o331 P) :: (nat_lit 332, o332 P) :: (nat_lit 334, o334 P) :: (nat_lit 335, o335 P) :: (nat_lit 337, o337 P) :: (nat_lit 338, o338 P) :: (nat_lit 339, o339 P) :: (nat_lit 341, o341 P) :: (nat_lit 342, o342 P) :: (nat_lit 344, o344 P) :: (nat_lit 345, o345 P) :: (nat_lit 353, o353 P) :: (nat_lit 355, o355 P) :: (nat_lit 356, o356 P) :: (nat_lit 358, o358 P) :: (nat_lit 359, o359 P) :: (nat_lit 360, o360 P) :: (nat_lit 362, o362 P) :: (nat_lit 363, o363 P) :: (nat_lit 365, o365 P) :: (nat_lit 366, o366 P) :: (nat_lit 367, o367 P) :: (nat_lit 369, o369 P) :: (nat_lit 370, o370 P) :: (nat_lit 372, o372 P) :: (nat_lit 373, o373 P) :: (nat_lit 374, o374 P) :: (nat_lit 376, o376 P) :: (nat_lit 377, o377 P) :: (nat_lit 379, o379 P) :: (nat_lit 380, o380 P) :: (nat_lit 381, o381 P) :: (nat_lit 383, o383 P) :: (nat_lit 384, o384 P) :: (nat_lit 386, o386 P) :: (nat_lit 387, o387 P) :: (nat_lit 388, o388 P) :: (nat_lit 390, o390 P) :: (nat_lit 391, o391 P) :: (nat_lit 393, o393 P) :: (nat_lit 394, o394 P) :: (nat_lit 395, o395 P) :: (nat_lit 396, o396 P) :: (nat_lit 397, o397 P) :: (nat_lit 398, o398 P) :: (nat_lit 399, o399 P) :: (nat_lit 402, o402 P) :: (nat_lit 404, o404 P) :: (nat_lit 405, o405 P) :: (nat_lit 407, o407 P) :: (nat_lit 408, o408 P) :: (nat_lit 409, o409 P) :: (nat_lit 412, o412 P) :: (nat_lit 413, o413 P) :: (nat_lit 414, o414 P) :: (nat_lit 416, o416 P) :: (nat_lit 417, o417 P) :: (nat_lit 419, o419 P) :: (nat_lit 420, o420 P) :: (nat_lit 421, o421 P) :: (nat_lit 423, o423 P) :: (nat_lit 424, o424 P) :: (nat_lit 426, o426 P) :: (nat_lit 427, o427 P) :: (nat_lit 428, o428 P) :: (nat_lit 430, o430 P) :: (nat_lit 431, o431 P) :: (nat_lit 433, o433 P) :: (nat_lit 434, o434 P) :: (nat_lit 435, o435 P) :: (nat_lit 437, o437 P) :: (nat_lit 438, o438 P) :: (nat_lit 440, o440 P) :: (nat_lit 441, o441 P) :: (nat_lit 442, o442 P) :: (nat_lit 444, o444 P) :: (nat_lit 445, o445 P) :: (nat_lit 447, o447 P) :: (nat_lit 448, o448 P) :: (nat_lit 449, o449 P) :: (nat_lit 452, o452 P) :: (nat_lit 453, o453 P) :: []
noncomputable def kAs : List Addr := [2, 3, 15, 18, 23, 24, 25, 27, 28, 30, 31, 32, 33, 34, 35, 38, 40, 41, 43, 44, 45, 47, 48, 50, 51, 52, 54, 55, 57, 58, 59, 61, 62, 64, 65, 66, 68, 69, 71, 72, 73, 75, 76, 78, 79, 80, 82, 83, 85, 86, 87, 89, 90, 92, 93, 94, 96, 97, 99, 100, 101, 103, 104, 106, 107, 108, 109, 111, 112, 114, 115, 116, 118, 119, 121, 122, 123, 125, 126, 128, 129, 130, 132, 133, 135, 136, 137, 139, 140, 142, 143, 144, 146, 147, 149, 150, 151, 153, 154, 156, 157, 158, 160, 161, 163, 164, 165, 167, 168, 170, 171, 172, 174, 175, 177, 178, 179, 181, 182, 184, 185, 186, 188, 189, 191, 192, 193, 195, 196, 198, 199, 200, 202, 203, 205, 206, 207, 209, 210, 212, 213, 214, 216, 217, 219, 220, 221, 223, 224, 226, 227, 228, 230, 231, 233, 234, 235, 237, 238, 240, 241, 242, 244, 245, 247, 248, 249, 251, 252, 254, 255, 256, 258, 259, 261, 262, 263, 265, 266, 268, 269, 270, 272, 273, 275, 276, 277, 278, 279, 281, 282, 284, 285, 286, 288, 289, 291, 292, 293, 295, 296, 298, 299, 300, 303, 304, 305, 307, 308, 310, 311, 312, 314, 315, 317, 318, 319, 321, 322, 324, 325, 326, 329, 330, 331, 332, 334, 335, 337, 338, 339, 341, 342, 344, 345, 353, 355, 356, 358, 359, 360, 362, 363, 365, 366, 367, 369, 370, 372, 373, 374, 376, 377, 379, 380, 381, 383, 384, 386, 387, 388, 390, 391, 393, 394, 395, 396, 397, 398, 399, 402, 404, 405, 407, 408, 409, 412, 413, 414, 416, 417, 419, 420, 421, 423, 424, 426, 427, 428, 430, 431, 433, 434, 435, 437, 438, 440, 441, 442, 444, 445, 447, 448, 449, 452, 453]
theorem kAs_of (P : Params) : kAs = (K P).map (·.1) := by kernel_rfl
noncomputable abbrev H : Hook := kHook K kAs kAs_of
noncomputable def nameOnly : Stmt → Bool
  | .Assign [.Name n _] _ _ => n == Str.ofString "__name__"
  | _ => false
noncomputable def V : Program := { pw with main := { pw.main with body := pw.main.body.filter fun s => !nameOnly s } }
noncomputable abbrev lo : List Str := [Str.ofString "BasicError"]
end Mine
end

section
open PySem PySem.W PyProof.Rows
namespace Mine
open PySem.Spec PySem.Calls
noncomputable def tEnv : Env := { scope := pw.main.scope, locals := mainNs, globals := mainNs, cells := [], code := .ref 13, frame := some 14 }
noncomputable abbrev tq : Pos := ⟨0, 0, 0, 0⟩
noncomputable abbrev tann : Option Value := some (.ref 6)
noncomputable abbrev tc : Code := .body (behindTheImports pw) tEnv
noncomputable def sl (i j : Nat) : List Stmt := ((behindTheImports pw).drop i).take (j - i)
noncomputable def q0x2 (P : Params) : Obj := ⟨.none, none, (.dict #[] 0), #[]⟩
noncomputable def q0x3 (P : Params) : Obj := ⟨(.type "dict"), none, (.dict #[⟨PyData.keyHash P (Str.ofString "__name__"), .str (Str.ofString "__name__") 165, (.str (Str.ofString "__main__") 164)⟩, ⟨PyData.keyHash P (Str.ofString "__doc__"), .str (Str.ofString "__doc__") 166, .none⟩, ⟨PyData.keyHash P (Str.ofString "__package__"), .str (Str.ofString "__package__") 167, .none⟩, ⟨PyData.keyHash P (Str.ofString "__loader__"), .str (Str.ofString "__loader__") 168, (.builtin "__main__.__loader__#opaque")⟩, ⟨PyData.keyHash P (Str.ofString "__spec__"), .str (Str.ofString "__spec__") 169, .none⟩, ⟨PyData.keyHash P (Str.ofString "__annotations__"), .str (Str.ofString "__annotations__") 170, (.ref 6)⟩, ⟨PyData.keyHash P (Str.ofString "__builtins__"), .str (Str.ofString "__builtins__") 171, (.ref 4)⟩, ⟨PyData.keyHash P (Str.ofString "__file__"), .str (Str.ofString "__file__") 173, (.str (Str.ofString "/claim/cut.py") 172)⟩, ⟨PyData.keyHash P (Str.ofString "__cached__"), .str (Str.ofString "__cached__") 174, .none⟩] 9), #[]⟩
noncomputable def q0x12 (P : Params) : Obj := ⟨.none, none, (.fields #[]), #[]⟩
noncomputable def tr0 (P : Params) : BT := (.node (o0 P) (.node (o1 P) (.node (q0x3 P) (.node (o7 P) .nil .nil) (.node (o11 P) .nil .nil)) (.node (o5 P) (.node (o9 P) .nil .nil) (.node (o13 P) .nil .nil))) (.node (q0x2 P) (.node (o4 P) (.node (o8 P) .nil .nil) (.node (q0x12 P) .nil .nil)) (.node (o6 P) (.node (o10 P) .nil .nil) (.node (o14 P) .nil .nil))))
noncomputable def sS0 (w : World) (os : OsState) : SharedT := ⟨tr0 w.params, 15, {}, #[], ⟨0, 0, 0, 0⟩, 187, os⟩
noncomputable def q1x2 (P : Params) : Obj := ⟨.none, none, (.dict #[] 0), #[]⟩
noncomputable def q1x3 (P : Params) : Obj := ⟨(.type "dict"), none, (.dict #[⟨PyData.keyHash P (Str.ofString "__name__"), .str (Str.ofString "__name__") 165, (.str (Str.ofString "basicplus.values") 187)⟩, ⟨PyData.keyHash P (Str.ofString "__doc__"), .str (Str.ofString "__doc__") 166, .none⟩, ⟨PyData.keyHash P (Str.ofString "__package__"), .str (Str.ofString "__package__") 167, .none⟩, ⟨PyData.keyHash P (Str.ofString "__loader__"), .str (Str.ofString "__loader__") 168, (.builtin "__main__.__loader__#opaque")⟩, ⟨PyData.keyHash P (Str.ofString "__spec__"), .str (Str.ofString "__spec__") 169, .none⟩, ⟨PyData.keyHash P (Str.ofString "__annotations__"), .str (Str.ofString "__annotations__") 170, (.ref 6)⟩, ⟨PyData.keyHash P (Str.ofString "__builtins__"), .str (Str.ofString "__builtins__") 171, (.ref 4)⟩, ⟨PyData.keyHash P (Str.ofString "__file__"), .str (Str.ofString "__file__") 173, (.str (Str.ofString "/claim/cut.py") 172)⟩, ⟨PyData.keyHash P (Str.ofString "__cached__"), .str (Str.ofString "__cached__") 174, .none⟩, ⟨PyData.keyHash P (Str.ofString "MOST_TEXT"), .str (Str.ofString "MOST_TEXT") 190, (.int 255 189)⟩, ⟨PyData.keyHash P (Str.ofString "MOST_EXPONENT"), .str (Str.ofString "MOST_EXPONENT") 192, (.int 99 191)⟩] 11), #[]⟩
noncomputable def q1x12 (P : Params) : Obj := ⟨.none, none, (.fields #[]), #[]⟩
noncomputable def tr1 (P : Params) : BT := (.node (o0 P) (.node (o1 P) (.node (q1x3 P) (.node (o7 P) .nil .nil) (.node (o11 P) .nil .nil)) (.node (o5 P) (.node (o9 P) .nil .nil) (.node (o13 P) .nil .nil))) (.node (q1x2 P) (.node (o4 P) (.node (o8 P) .nil .nil) (.node (q1x12 P) .nil .nil)) (.node (o6 P) (.node (o10 P) .nil .nil) (.node (o14 P) .nil .nil))))
noncomputable def sS1 (w : World) (os : OsState) : SharedT := ⟨tr1 w.params, 15, {}, #[], ⟨0, 0, 0, 0⟩, 193, os⟩
noncomputable def q2x3 (P : Params) : Obj := ⟨(.type "dict"), none, (.dict #[⟨PyData.keyHash P (Str.ofString "__name__"), .str (Str.ofString "__name__") 165, (.str (Str.ofString "basicplus.values") 187)⟩, ⟨PyData.keyHash P (Str.ofString "__doc__"), .str (Str.ofString "__doc__") 166, .none⟩, ⟨PyData.keyHash P (Str.ofString "__package__"), .str (Str.ofString "__package__") 167, .none⟩, ⟨PyData.keyHash P (Str.ofString "__loader__"), .str (Str.ofString "__loader__") 168, (.builtin "__main__.__loader__#opaque")⟩, ⟨PyData.keyHash P (Str.ofString "__spec__"), .str (Str.ofString "__spec__") 169, .none⟩, ⟨PyData.keyHash P (Str.ofString "__annotations__"), .str (Str.ofString "__annotations__") 170, (.ref 6)⟩, ⟨PyData.keyHash P (Str.ofString "__builtins__"), .str (Str.ofString "__builtins__") 171, (.ref 4)⟩, ⟨PyData.keyHash P (Str.ofString "__file__"), .str (Str.ofString "__file__") 173, (.str (Str.ofString "/claim/cut.py") 172)⟩, ⟨PyData.keyHash P (Str.ofString "__cached__"), .str (Str.ofString "__cached__") 174, .none⟩, ⟨PyData.keyHash P (Str.ofString "MOST_TEXT"), .str (Str.ofString "MOST_TEXT") 190, (.int 255 189)⟩, ⟨PyData.keyHash P (Str.ofString "MOST_EXPONENT"), .str (Str.ofString "MOST_EXPONENT") 192, (.int 99 191)⟩, ⟨PyData.keyHash P (Str.ofString "BasicError"), .str (Str.ofString "BasicError") 226, (.ref 34)⟩] 12), #[]⟩
noncomputable def q2x12 (P : Params) : Obj := ⟨.none, none, (.fields #[(.int 4 0), (.int 0 0), (.ref 21)]), #[]⟩
noncomputable def tr2 (P : Params) : BT := (.node (o0 P) (.node (o1 P) (.node (q2x3 P) (.node (o7 P) (.node (o15 P) (.node (o31 P) .nil .nil) .nil) (.node (o23 P) .nil .nil)) (.node (o11 P) (.node (o19 P) (.node (o35 P) .nil .nil) .nil) (.node (o27 P) .nil .nil))) (.node (o5 P) (.node (o9 P) (.node (o17 P) (.node (o33 P) .nil .nil) .nil) (.node (o25 P) .nil .nil)) (.node (o13 P) (.node (o21 P) (.node (o37 P) .nil .nil) .nil) (.node (o29 P) .nil .nil)))) (.node (o2 P) (.node (o4 P) (.node (o8 P) (.node (o16 P) (.node (o32 P) .nil .nil) .nil) (.node (o24 P) .nil .nil)) (.node (q2x12 P) (.node (o20 P) (.node (o36 P) .nil .nil) .nil) (.node (o28 P) .nil .nil))) (.node (o6 P) (.node (o10 P) (.node (o18 P) (.node (o34 P) .nil .nil) .nil) (.node (o26 P) .nil .nil)) (.node (o14 P) (.node (o22 P) .nil .nil) (.node (o30 P) .nil .nil)))))
noncomputable def sS2 (w : World) (os : OsState) : SharedT := ⟨tr2 w.params, 38, {}, #[], ⟨0, 0, 0, 0⟩, 227, os⟩
noncomputable def q3x3 (P : Params) : Obj := ⟨(.type "dict"), none, (.dict #[⟨PyData.keyHash P (Str.ofString "__name__"), .str (Str.ofString "__name__") 165, (.str (Str.ofString "basicplus.decimals") 315)⟩, ⟨PyData.keyHash P (Str.ofString "__doc__"), .str (Str.ofString "__doc__") 166, .none⟩, ⟨PyData.keyHash P (Str.ofString "__package__"), .str (Str.ofString "__package__") 167, .none⟩, ⟨PyData.keyHash P (Str.ofString "__loader__"), .str (Str.ofString "__loader__") 168, (.builtin "__main__.__loader__#opaque")⟩, ⟨PyData.keyHash P (Str.ofString "__spec__"), .str (Str.ofString "__spec__") 169, .none⟩, ⟨PyData.keyHash P (Str.ofString "__annotations__"), .str (Str.ofString "__annotations__") 170, (.ref 6)⟩, ⟨PyData.keyHash P (Str.ofString "__builtins__"), .str (Str.ofString "__builtins__") 171, (.ref 4)⟩, ⟨PyData.keyHash P (Str.ofString "__file__"), .str (Str.ofString "__file__") 173, (.str (Str.ofString "/claim/cut.py") 172)⟩, ⟨PyData.keyHash P (Str.ofString "__cached__"), .str (Str.ofString "__cached__") 174, .none⟩, ⟨PyData.keyHash P (Str.ofString "MOST_TEXT"), .str (Str.ofString "MOST_TEXT") 190, (.int 255 189)⟩, ⟨PyData.keyHash P (Str.ofString "MOST_EXPONENT"), .str (Str.ofString "MOST_EXPONENT") 192, (.int 99 191)⟩, ⟨PyData.keyHash P (Str.ofString "BasicError"), .str (Str.ofString "BasicError") 226, (.ref 34)⟩, ⟨PyData.keyHash P (Str.ofString "kind_of"), .str (Str.ofString "kind_of") 233, (.ref 44)⟩, ⟨PyData.keyHash P (Str.ofString "figures_of"), .str (Str.ofString "figures_of") 242, (.ref 51)⟩, ⟨PyData.keyHash P (Str.ofString "rounded_by"), .str (Str.ofString "rounded_by") 253, (.ref 58)⟩, ⟨PyData.keyHash P (Str.ofString "made"), .str (Str.ofString "made") 265, (.ref 65)⟩, ⟨PyData.keyHash P (Str.ofString "whole_near"), .str (Str.ofString "whole_near") 275, (.ref 72)⟩, ⟨PyData.keyHash P (Str.ofString "fits"), .str (Str.ofString "fits") 283, (.ref 79)⟩, ⟨PyData.keyHash P (Str.ofString "whole_of"), .str (Str.ofString "whole_of") 292, (.ref 86)⟩, ⟨PyData.keyHash P (Str.ofString "decimal_of"), .str (Str.ofString "decimal_of") 300, (.ref 93)⟩, ⟨PyData.keyHash P (Str.ofString "checked_text"), .str (Str.ofString "checked_text") 307, (.ref 100)⟩, ⟨PyData.keyHash P (Str.ofString "truth"), .str (Str.ofString "truth") 314, (.ref 107)⟩] 22), #[]⟩
noncomputable def q3x12 (P : Params) : Obj := ⟨.none, none, (.fields #[(.int 4 0), (.int 0 0), (.ref 21), (.int 10 0), (.int 0 0), (.ref 43), (.int 14 0), (.int 0 0), (.ref 50), (.int 20 0), (.int 0 0), (.ref 57), (.int 30 0), (.int 0 0), (.ref 64), (.int 45 0), (.int 0 0), (.ref 71), (.int 51 0), (.int 0 0), (.ref 78), (.int 53 0), (.int 0 0), (.ref 85), (.int 60 0), (.int 0 0), (.ref 92), (.int 64 0), (.int 0 0), (.ref 99), (.int 68 0), (.int 0 0), (.ref 106)]), #[]⟩
noncomputable def tr3 (P : Params) : BT := (.node (o0 P) (.node (o1 P) (.node (q3x3 P) (.node (o7 P) (.node (o15 P) (.node (o31 P) (.node (o63 P) .nil .nil) (.node (o95 P) .nil .nil)) (.node (o47 P) (.node (o79 P) .nil .nil) .nil)) (.node (o23 P) (.node (o39 P) (.node (o71 P) .nil .nil) (.node (o103 P) .nil .nil)) (.node (o55 P) (.node (o87 P) .nil .nil) .nil))) (.node (o11 P) (.node (o19 P) (.node (o35 P) (.node (o67 P) .nil .nil) (.node (o99 P) .nil .nil)) (.node (o51 P) (.node (o83 P) .nil .nil) .nil)) (.node (o27 P) (.node (o43 P) (.node (o75 P) .nil .nil) (.node (o107 P) .nil .nil)) (.node (o59 P) (.node (o91 P) .nil .nil) .nil)))) (.node (o5 P) (.node (o9 P) (.node (o17 P) (.node (o33 P) (.node (o65 P) .nil .nil) (.node (o97 P) .nil .nil)) (.node (o49 P) (.node (o81 P) .nil .nil) .nil)) (.node (o25 P) (.node (o41 P) (.node (o73 P) .nil .nil) (.node (o105 P) .nil .nil)) (.node (o57 P) (.node (o89 P) .nil .nil) .nil))) (.node (o13 P) (.node (o21 P) (.node (o37 P) (.node (o69 P) .nil .nil) (.node (o101 P) .nil .nil)) (.node (o53 P) (.node (o85 P) .nil .nil) .nil)) (.node (o29 P) (.node (o45 P) (.node (o77 P) .nil .nil) .nil) (.node (o61 P) (.node (o93 P) .nil .nil) .nil))))) (.node (o2 P) (.node (o4 P) (.node (o8 P) (.node (o16 P) (.node (o32 P) (.node (o64 P) .nil .nil) (.node (o96 P) .nil .nil)) (.node (o48 P) (.node (o80 P) .nil .nil) .nil)) (.node (o24 P) (.node (o40 P) (.node (o72 P) .nil .nil) (.node (o104 P) .nil .nil)) (.node (o56 P) (.node (o88 P) .nil .nil) .nil))) (.node (q3x12 P) (.node (o20 P) (.node (o36 P) (.node (o68 P) .nil .nil) (.node (o100 P) .nil .nil)) (.node (o52 P) (.node (o84 P) .nil .nil) .nil)) (.node (o28 P) (.node (o44 P) (.node (o76 P) .nil .nil) .nil) (.node (o60 P) (.node (o92 P) .nil .nil) .nil)))) (.node (o6 P) (.node (o10 P) (.node (o18 P) (.node (o34 P) (.node (o66 P) .nil .nil) (.node (o98 P) .nil .nil)) (.node (o50 P) (.node (o82 P) .nil .nil) .nil)) (.node (o26 P) (.node (o42 P) (.node (o74 P) .nil .nil) (.node (o106 P) .nil .nil)) (.node (o58 P) (.node (o90 P) .nil .nil) .nil))) (.node (o14 P) (.node (o22 P) (.node (o38 P) (.node (o70 P) .nil .nil) (.node (o102 P) .nil .nil)) (.node (o54 P) (.node (o86 P) .nil .nil) .nil)) (.node (o30 P) (.node (o46 P) (.node (o78 P) .nil .nil) .nil) (.node (o62 P) (.node (o94 P) .nil .nil) .nil))))))
noncomputable def sS3 (w : World) (os : OsState) : SharedT := ⟨tr3 w.params, 108, {}, #[], ⟨0, 0, 0, 0⟩, 317, os⟩
noncomputable def q4x3 (P : Params) : Obj := ⟨(.type "dict"), none, (.dict #[⟨PyData.keyHash P (Str.ofString "__name__"), .str (Str.ofString "__name__") 165, (.str (Str.ofString "basicplus.arith") 422)⟩, ⟨PyData.keyHash P (Str.ofString "__doc__"), .str (Str.ofString "__doc__") 166, .none⟩, ⟨PyData.keyHash P (Str.ofString "__package__"), .str (Str.ofString "__package__") 167, .none⟩, ⟨PyData.keyHash P (Str.ofString "__loader__"), .str (Str.ofString "__loader__") 168, (.builtin "__main__.__loader__#opaque")⟩, ⟨PyData.keyHash P (Str.ofString "__spec__"), .str (Str.ofString "__spec__") 169, .none⟩, ⟨PyData.keyHash P (Str.ofString "__annotations__"), .str (Str.ofString "__annotations__") 170, (.ref 6)⟩, ⟨PyData.keyHash P (Str.ofString "__builtins__"), .str (Str.ofString "__builtins__") 171, (.ref 4)⟩, ⟨PyData.keyHash P (Str.ofString "__file__"), .str (Str.ofString "__file__") 173, (.str (Str.ofString "/claim/cut.py") 172)⟩, ⟨PyData.keyHash P (Str.ofString "__cached__"), .str (Str.ofString "__cached__") 174, .none⟩, ⟨PyData.keyHash P (Str.ofString "MOST_TEXT"), .str (Str.ofString "MOST_TEXT") 190, (.int 255 189)⟩, ⟨PyData.keyHash P (Str.ofString "MOST_EXPONENT"), .str (Str.ofString "MOST_EXPONENT") 192, (.int 99 191)⟩, ⟨PyData.keyHash P (Str.ofString "BasicError"), .str (Str.ofString "BasicError") 226, (.ref 34)⟩, ⟨PyData.keyHash P (Str.ofString "kind_of"), .str (Str.ofString "kind_of") 233, (.ref 44)⟩, ⟨PyData.keyHash P (Str.ofString "figures_of"), .str (Str.ofString "figures_of") 242, (.ref 51)⟩, ⟨PyData.keyHash P (Str.ofString "rounded_by"), .str (Str.ofString "rounded_by") 253, (.ref 58)⟩, ⟨PyData.keyHash P (Str.ofString "made"), .str (Str.ofString "made") 265, (.ref 65)⟩, ⟨PyData.keyHash P (Str.ofString "whole_near"), .str (Str.ofString "whole_near") 275, (.ref 72)⟩, ⟨PyData.keyHash P (Str.ofString "fits"), .str (Str.ofString "fits") 283, (.ref 79)⟩, ⟨PyData.keyHash P (Str.ofString "whole_of"), .str (Str.ofString "whole_of") 292, (.ref 86)⟩, ⟨PyData.keyHash P (Str.ofString "decimal_of"), .str (Str.ofString "decimal_of") 300, (.ref 93)⟩, ⟨PyData.keyHash P (Str.ofString "checked_text"), .str (Str.ofString "checked_text") 307, (.ref 100)⟩, ⟨PyData.keyHash P (Str.ofString "truth"), .str (Str.ofString "truth") 314, (.ref 107)⟩, ⟨PyData.keyHash P (Str.ofString "ONE"), .str (Str.ofString "ONE") 319, (.ref 108)⟩, ⟨PyData.keyHash P (Str.ofString "MOST_POWER"), .str (Str.ofString "MOST_POWER") 321, (.int 9999 320)⟩, ⟨PyData.keyHash P (Str.ofString "d_negated"), .str (Str.ofString "d_negated") 328, (.ref 115)⟩, ⟨PyData.keyHash P (Str.ofString "alike"), .str (Str.ofString "alike") 337, (.ref 122)⟩, ⟨PyData.keyHash P (Str.ofString "d_add"), .str (Str.ofString "d_add") 349, (.ref 129)⟩, ⟨PyData.keyHash P (Str.ofString "d_sub"), .str (Str.ofString "d_sub") 358, (.ref 136)⟩, ⟨PyData.keyHash P (Str.ofString "d_mul"), .str (Str.ofString "d_mul") 367, (.ref 143)⟩, ⟨PyData.keyHash P (Str.ofString "with_rest"), .str (Str.ofString "with_rest") 376, (.ref 150)⟩, ⟨PyData.keyHash P (Str.ofString "d_div"), .str (Str.ofString "d_div") 390, (.ref 157)⟩, ⟨PyData.keyHash P (Str.ofString "d_compare"), .str (Str.ofString "d_compare") 401, (.ref 164)⟩, ⟨PyData.keyHash P (Str.ofString "d_power"), .str (Str.ofString "d_power") 413, (.ref 171)⟩, ⟨PyData.keyHash P (Str.ofString "square_or_end"), .str (Str.ofString "square_or_end") 421, (.ref 178)⟩, ⟨PyData.keyHash P (Str.ofString "is_whole"), .str (Str.ofString "is_whole") 430, (.ref 185)⟩, ⟨PyData.keyHash P (Str.ofString "settled"), .str (Str.ofString "settled") 439, (.ref 192)⟩] 36), #[]⟩
noncomputable def q4x12 (P : Params) : Obj := ⟨.none, none, (.fields #[(.int 4 0), (.int 0 0), (.ref 21), (.int 10 0), (.int 0 0), (.ref 43), (.int 14 0), (.int 0 0), (.ref 50), (.int 20 0), (.int 0 0), (.ref 57), (.int 30 0), (.int 0 0), (.ref 64), (.int 45 0), (.int 0 0), (.ref 71), (.int 51 0), (.int 0 0), (.ref 78), (.int 53 0), (.int 0 0), (.ref 85), (.int 60 0), (.int 0 0), (.ref 92), (.int 64 0), (.int 0 0), (.ref 99), (.int 68 0), (.int 0 0), (.ref 106), (.int 73 0), (.int 0 0), (.ref 114), (.int 75 0), (.int 0 0), (.ref 121), (.int 78 0), (.int 0 0), (.ref 128), (.int 81 0), (.int 0 0), (.ref 135), (.int 83 0), (.int 0 0), (.ref 142), (.int 85 0), (.int 0 0), (.ref 149), (.int 87 0), (.int 0 0), (.ref 156), (.int 95 0), (.int 0 0), (.ref 163), (.int 98 0), (.int 0 0), (.ref 170), (.int 112 0), (.int 0 0), (.ref 177), (.int 115 0), (.int 0 0), (.ref 184), (.int 119 0), (.int 0 0), (.ref 191)]), #[]⟩
noncomputable def tr4 (P : Params) : BT := (.node (o0 P) (.node (o1 P) (.node (q4x3 P) (.node (o7 P) (.node (o15 P) (.node (o31 P) (.node (o63 P) (.node (o127 P) .nil .nil) (.node (o191 P) .nil .nil)) (.node (o95 P) (.node (o159 P) .nil .nil) .nil)) (.node (o47 P) (.node (o79 P) (.node (o143 P) .nil .nil) .nil) (.node (o111 P) (.node (o175 P) .nil .nil) .nil))) (.node (o23 P) (.node (o39 P) (.node (o71 P) (.node (o135 P) .nil .nil) .nil) (.node (o103 P) (.node (o167 P) .nil .nil) .nil)) (.node (o55 P) (.node (o87 P) (.node (o151 P) .nil .nil) .nil) (.node (o119 P) (.node (o183 P) .nil .nil) .nil)))) (.node (o11 P) (.node (o19 P) (.node (o35 P) (.node (o67 P) (.node (o131 P) .nil .nil) .nil) (.node (o99 P) (.node (o163 P) .nil .nil) .nil)) (.node (o51 P) (.node (o83 P) (.node (o147 P) .nil .nil) .nil) (.node (o115 P) (.node (o179 P) .nil .nil) .nil))) (.node (o27 P) (.node (o43 P) (.node (o75 P) (.node (o139 P) .nil .nil) .nil) (.node (o107 P) (.node (o171 P) .nil .nil) .nil)) (.node (o59 P) (.node (o91 P) (.node (o155 P) .nil .nil) .nil) (.node (o123 P) (.node (o187 P) .nil .nil) .nil))))) (.node (o5 P) (.node (o9 P) (.node (o17 P) (.node (o33 P) (.node (o65 P) (.node (o129 P) .nil .nil) .nil) (.node (o97 P) (.node (o161 P) .nil .nil) .nil)) (.node (o49 P) (.node (o81 P) (.node (o145 P) .nil .nil) .nil) (.node (o113 P) (.node (o177 P) .nil .nil) .nil))) (.node (o25 P) (.node (o41 P) (.node (o73 P) (.node (o137 P) .nil .nil) .nil) (.node (o105 P) (.node (o169 P) .nil .nil) .nil)) (.node (o57 P) (.node (o89 P) (.node (o153 P) .nil .nil) .nil) (.node (o121 P) (.node (o185 P) .nil .nil) .nil)))) (.node (o13 P) (.node (o21 P) (.node (o37 P) (.node (o69 P) (.node (o133 P) .nil .nil) .nil) (.node (o101 P) (.node (o165 P) .nil .nil) .nil)) (.node (o53 P) (.node (o85 P) (.node (o149 P) .nil .nil) .nil) (.node (o117 P) (.node (o181 P) .nil .nil) .nil))) (.node (o29 P) (.node (o45 P) (.node (o77 P) (.node (o141 P) .nil .nil) .nil) (.node (o109 P) (.node (o173 P) .nil .nil) .nil)) (.node (o61 P) (.node (o93 P) (.node (o157 P) .nil .nil) .nil) (.node (o125 P) (.node (o189 P) .nil .nil) .nil)))))) (.node (o2 P) (.node (o4 P) (.node (o8 P) (.node (o16 P) (.node (o32 P) (.node (o64 P) (.node (o128 P) .nil .nil) (.node (o192 P) .nil .nil)) (.node (o96 P) (.node (o160 P) .nil .nil) .nil)) (.node (o48 P) (.node (o80 P) (.node (o144 P) .nil .nil) .nil) (.node (o112 P) (.node (o176 P) .nil .nil) .nil))) (.node (o24 P) (.node (o40 P) (.node (o72 P) (.node (o136 P) .nil .nil) .nil) (.node (o104 P) (.node (o168 P) .nil .nil) .nil)) (.node (o56 P) (.node (o88 P) (.node (o152 P) .nil .nil) .nil) (.node (o120 P) (.node (o184 P) .nil .nil) .nil)))) (.node (q4x12 P) (.node (o20 P) (.node (o36 P) (.node (o68 P) (.node (o132 P) .nil .nil) .nil) (.node (o100 P) (.node (o164 P) .nil .nil) .nil)) (.node (o52 P) (.node (o84 P) (.node (o148 P) .nil .nil) .nil) (.node (o116 P) (.node (o180 P) .nil .nil) .nil))) (.node (o28 P) (.node (o44 P) (.node (o76 P) (.node (o140 P) .nil .nil) .nil) (.node (o108 P) (.node (o172 P) .nil .nil) .nil)) (.node (o60 P) (.node (o92 P) (.node (o156 P) .nil .nil) .nil) (.node (o124 P) (.node (o188 P) .nil .nil) .nil))))) (.node (o6 P) (.node (o10 P) (.node (o18 P) (.node (o34 P) (.node (o66 P) (.node (o130 P) .nil .nil) .nil) (.node (o98 P) (.node (o162 P) .nil .nil) .nil)) (.node (o50 P) (.node (o82 P) (.node (o146 P) .nil .nil) .nil) (.node (o114 P) (.node (o178 P) .nil .nil) .nil))) (.node (o26 P) (.node (o42 P) (.node (o74 P) (.node (o138 P) .nil .nil) .nil) (.node (o106 P) (.node (o170 P) .nil .nil) .nil)) (.node (o58 P) (.node (o90 P) (.node (o154 P) .nil .nil) .nil) (.node (o122 P) (.node (o186 P) .nil .nil) .nil)))) (.node (o14 P) (.node (o22 P) (.node (o38 P) (.node (o70 P) (.node (o134 P) .nil .nil) .nil) (.node (o102 P) (.node (o166 P) .nil .nil) .nil)) (.node (o54 P) (.node (o86 P) (.node (o150 P) .nil .nil) .nil) (.node (o118 P) (.node (o182 P) .nil .nil) .nil))) (.node (o30 P) (.node (o46 P) (.node (o78 P) (.node (o142 P) .nil .nil) .nil) (.node (o110 P) (.node (o174 P) .nil .nil) .nil)) (.node (o62 P) (.node (o94 P) (.node (o158 P) .nil .nil) .nil) (.node (o126 P) (.node (o190 P) .nil .nil) .nil)))))))
noncomputable def sS4 (w : World) (os : OsState) : SharedT := ⟨tr4 w.params, 193, {}, #[], ⟨0, 0, 0, 0⟩, 440, os⟩
noncomputable def q5x3 (P : Params) : Obj := ⟨(.type "dict"), none, (.dict #[⟨PyData.keyHash P (Str.ofString "__name__"), .str (Str.ofString "__name__") 165, (.str (Str.ofString "basicplus.worth") 558)⟩, ⟨PyData.keyHash P (Str.ofString "__doc__"), .str (Str.ofString "__doc__") 166, .none⟩, ⟨PyData.keyHash P (Str.ofString "__package__"), .str (Str.ofString "__package__") 167, .none⟩, ⟨PyData.keyHash P (Str.ofString "__loader__"), .str (Str.ofString "__loader__") 168, (.builtin "__main__.__loader__#opaque")⟩, ⟨PyData.keyHash P (Str.ofString "__spec__"), .str (Str.ofString "__spec__") 169, .none⟩, ⟨PyData.keyHash P (Str.ofString "__annotations__"), .str (Str.ofString "__annotations__") 170, (.ref 6)⟩, ⟨PyData.keyHash P (Str.ofString "__builtins__"), .str (Str.ofString "__builtins__") 171, (.ref 4)⟩, ⟨PyData.keyHash P (Str.ofString "__file__"), .str (Str.ofString "__file__") 173, (.str (Str.ofString "/claim/cut.py") 172)⟩, ⟨PyData.keyHash P (Str.ofString "__cached__"), .str (Str.ofString "__cached__") 174, .none⟩, ⟨PyData.keyHash P (Str.ofString "MOST_TEXT"), .str (Str.ofString "MOST_TEXT") 190, (.int 255 189)⟩, ⟨PyData.keyHash P (Str.ofString "MOST_EXPONENT"), .str (Str.ofString "MOST_EXPONENT") 192, (.int 99 191)⟩, ⟨PyData.keyHash P (Str.ofString "BasicError"), .str (Str.ofString "BasicError") 226, (.ref 34)⟩, ⟨PyData.keyHash P (Str.ofString "kind_of"), .str (Str.ofString "kind_of") 233, (.ref 44)⟩, ⟨PyData.keyHash P (Str.ofString "figures_of"), .str (Str.ofString "figures_of") 242, (.ref 51)⟩, ⟨PyData.keyHash P (Str.ofString "rounded_by"), .str (Str.ofString "rounded_by") 253, (.ref 58)⟩, ⟨PyData.keyHash P (Str.ofString "made"), .str (Str.ofString "made") 265, (.ref 65)⟩, ⟨PyData.keyHash P (Str.ofString "whole_near"), .str (Str.ofString "whole_near") 275, (.ref 72)⟩, ⟨PyData.keyHash P (Str.ofString "fits"), .str (Str.ofString "fits") 283, (.ref 79)⟩, ⟨PyData.keyHash P (Str.ofString "whole_of"), .str (Str.ofString "whole_of") 292, (.ref 86)⟩, ⟨PyData.keyHash P (Str.ofString "decimal_of"), .str (Str.ofString "decimal_of") 300, (.ref 93)⟩, ⟨PyData.keyHash P (Str.ofString "checked_text"), .str (Str.ofString "checked_text") 307, (.ref 100)⟩, ⟨PyData.keyHash P (Str.ofString "truth"), .str (Str.ofString "truth") 314, (.ref 107)⟩, ⟨PyData.keyHash P (Str.ofString "ONE"), .str (Str.ofString "ONE") 319, (.ref 108)⟩, ⟨PyData.keyHash P (Str.ofString "MOST_POWER"), .str (Str.ofString "MOST_POWER") 321, (.int 9999 320)⟩, ⟨PyData.keyHash P (Str.ofString "d_negated"), .str (Str.ofString "d_negated") 328, (.ref 115)⟩, ⟨PyData.keyHash P (Str.ofString "alike"), .str (Str.ofString "alike") 337, (.ref 122)⟩, ⟨PyData.keyHash P (Str.ofString "d_add"), .str (Str.ofString "d_add") 349, (.ref 129)⟩, ⟨PyData.keyHash P (Str.ofString "d_sub"), .str (Str.ofString "d_sub") 358, (.ref 136)⟩, ⟨PyData.keyHash P (Str.ofString "d_mul"), .str (Str.ofString "d_mul") 367, (.ref 143)⟩, ⟨PyData.keyHash P (Str.ofString "with_rest"), .str (Str.ofString "with_rest") 376, (.ref 150)⟩, ⟨PyData.keyHash P (Str.ofString "d_div"), .str (Str.ofString "d_div") 390, (.ref 157)⟩, ⟨PyData.keyHash P (Str.ofString "d_compare"), .str (Str.ofString "d_compare") 401, (.ref 164)⟩, ⟨PyData.keyHash P (Str.ofString "d_power"), .str (Str.ofString "d_power") 413, (.ref 171)⟩, ⟨PyData.keyHash P (Str.ofString "square_or_end"), .str (Str.ofString "square_or_end") 421, (.ref 178)⟩, ⟨PyData.keyHash P (Str.ofString "is_whole"), .str (Str.ofString "is_whole") 430, (.ref 185)⟩, ⟨PyData.keyHash P (Str.ofString "settled"), .str (Str.ofString "settled") 439, (.ref 192)⟩, ⟨PyData.keyHash P (Str.ofString "whole_reckoned"), .str (Str.ofString "whole_reckoned") 450, (.ref 199)⟩, ⟨PyData.keyHash P (Str.ofString "cut_quotient"), .str (Str.ofString "cut_quotient") 459, (.ref 206)⟩, ⟨PyData.keyHash P (Str.ofString "cut_rest"), .str (Str.ofString "cut_rest") 467, (.ref 213)⟩, ⟨PyData.keyHash P (Str.ofString "exponent_of"), .str (Str.ofString "exponent_of") 474, (.ref 220)⟩, ⟨PyData.keyHash P (Str.ofString "whole_power"), .str (Str.ofString "whole_power") 484, (.ref 227)⟩, ⟨PyData.keyHash P (Str.ofString "raised"), .str (Str.ofString "raised") 495, (.ref 234)⟩, ⟨PyData.keyHash P (Str.ofString "reckoned"), .str (Str.ofString "reckoned") 511, (.ref 241)⟩, ⟨PyData.keyHash P (Str.ofString "negated"), .str (Str.ofString "negated") 520, (.ref 248)⟩, ⟨PyData.keyHash P (Str.ofString "order_of"), .str (Str.ofString "order_of") 528, (.ref 255)⟩, ⟨PyData.keyHash P (Str.ofString "inverted"), .str (Str.ofString "inverted") 536, (.ref 262)⟩, ⟨PyData.keyHash P (Str.ofString "logic"), .str (Str.ofString "logic") 548, (.ref 269)⟩, ⟨PyData.keyHash P (Str.ofString "parts_of_tree"), .str (Str.ofString "parts_of_tree") 557, (.ref 276)⟩, ⟨PyData.keyHash P (Str.ofString "LOGIC"), .str (Str.ofString "LOGIC") 565, (.ref 277)⟩] 49), #[]⟩
noncomputable def q5x12 (P : Params) : Obj := ⟨.none, none, (.fields #[(.int 4 0), (.int 0 0), (.ref 21), (.int 10 0), (.int 0 0), (.ref 43), (.int 14 0), (.int 0 0), (.ref 50), (.int 20 0), (.int 0 0), (.ref 57), (.int 30 0), (.int 0 0), (.ref 64), (.int 45 0), (.int 0 0), (.ref 71), (.int 51 0), (.int 0 0), (.ref 78), (.int 53 0), (.int 0 0), (.ref 85), (.int 60 0), (.int 0 0), (.ref 92), (.int 64 0), (.int 0 0), (.ref 99), (.int 68 0), (.int 0 0), (.ref 106), (.int 73 0), (.int 0 0), (.ref 114), (.int 75 0), (.int 0 0), (.ref 121), (.int 78 0), (.int 0 0), (.ref 128), (.int 81 0), (.int 0 0), (.ref 135), (.int 83 0), (.int 0 0), (.ref 142), (.int 85 0), (.int 0 0), (.ref 149), (.int 87 0), (.int 0 0), (.ref 156), (.int 95 0), (.int 0 0), (.ref 163), (.int 98 0), (.int 0 0), (.ref 170), (.int 112 0), (.int 0 0), (.ref 177), (.int 115 0), (.int 0 0), (.ref 184), (.int 119 0), (.int 0 0), (.ref 191), (.int 121 0), (.int 0 0), (.ref 198), (.int 125 0), (.int 0 0), (.ref 205), (.int 130 0), (.int 0 0), (.ref 212), (.int 132 0), (.int 0 0), (.ref 219), (.int 138 0), (.int 0 0), (.ref 226), (.int 144 0), (.int 0 0), (.ref 233), (.int 149 0), (.int 0 0), (.ref 240), (.int 164 0), (.int 0 0), (.ref 247), (.int 166 0), (.int 0 0), (.ref 254), (.int 172 0), (.int 0 0), (.ref 261), (.int 174 0), (.int 0 0), (.ref 268), (.int 184 0), (.int 0 0), (.ref 275)]), #[]⟩
noncomputable def tr5 (P : Params) : BT := (.node (o0 P) (.node (o1 P) (.node (q5x3 P) (.node (o7 P) (.node (o15 P) (.node (o31 P) (.node (o63 P) (.node (o127 P) (.node (o255 P) .nil .nil) .nil) (.node (o191 P) .nil .nil)) (.node (o95 P) (.node (o159 P) .nil .nil) (.node (o223 P) .nil .nil))) (.node (o47 P) (.node (o79 P) (.node (o143 P) (.node (o271 P) .nil .nil) .nil) (.node (o207 P) .nil .nil)) (.node (o111 P) (.node (o175 P) .nil .nil) (.node (o239 P) .nil .nil)))) (.node (o23 P) (.node (o39 P) (.node (o71 P) (.node (o135 P) (.node (o263 P) .nil .nil) .nil) (.node (o199 P) .nil .nil)) (.node (o103 P) (.node (o167 P) .nil .nil) (.node (o231 P) .nil .nil))) (.node (o55 P) (.node (o87 P) (.node (o151 P) .nil .nil) (.node (o215 P) .nil .nil)) (.node (o119 P) (.node (o183 P) .nil .nil) (.node (o247 P) .nil .nil))))) (.node (o11 P) (.node (o19 P) (.node (o35 P) (.node (o67 P) (.node (o131 P) (.node (o259 P) .nil .nil) .nil) (.node (o195 P) .nil .nil)) (.node (o99 P) (.node (o163 P) .nil .nil) (.node (o227 P) .nil .nil))) (.node (o51 P) (.node (o83 P) (.node (o147 P) (.node (o275 P) .nil .nil) .nil) (.node (o211 P) .nil .nil)) (.node (o115 P) (.node (o179 P) .nil .nil) (.node (o243 P) .nil .nil)))) (.node (o27 P) (.node (o43 P) (.node (o75 P) (.node (o139 P) (.node (o267 P) .nil .nil) .nil) (.node (o203 P) .nil .nil)) (.node (o107 P) (.node (o171 P) .nil .nil) (.node (o235 P) .nil .nil))) (.node (o59 P) (.node (o91 P) (.node (o155 P) .nil .nil) (.node (o219 P) .nil .nil)) (.node (o123 P) (.node (o187 P) .nil .nil) (.node (o251 P) .nil .nil)))))) (.node (o5 P) (.node (o9 P) (.node (o17 P) (.node (o33 P) (.node (o65 P) (.node (o129 P) (.node (o257 P) .nil .nil) .nil) (.node (o193 P) .nil .nil)) (.node (o97 P) (.node (o161 P) .nil .nil) (.node (o225 P) .nil .nil))) (.node (o49 P) (.node (o81 P) (.node (o145 P) (.node (o273 P) .nil .nil) .nil) (.node (o209 P) .nil .nil)) (.node (o113 P) (.node (o177 P) .nil .nil) (.node (o241 P) .nil .nil)))) (.node (o25 P) (.node (o41 P) (.node (o73 P) (.node (o137 P) (.node (o265 P) .nil .nil) .nil) (.node (o201 P) .nil .nil)) (.node (o105 P) (.node (o169 P) .nil .nil) (.node (o233 P) .nil .nil))) (.node (o57 P) (.node (o89 P) (.node (o153 P) .nil .nil) (.node (o217 P) .nil .nil)) (.node (o121 P) (.node (o185 P) .nil .nil) (.node (o249 P) .nil .nil))))) (.node (o13 P) (.node (o21 P) (.node (o37 P) (.node (o69 P) (.node (o133 P) (.node (o261 P) .nil .nil) .nil) (.node (o197 P) .nil .nil)) (.node (o101 P) (.node (o165 P) .nil .nil) (.node (o229 P) .nil .nil))) (.node (o53 P) (.node (o85 P) (.node (o149 P) (.node (o277 P) .nil .nil) .nil) (.node (o213 P) .nil .nil)) (.node (o117 P) (.node (o181 P) .nil .nil) (.node (o245 P) .nil .nil)))) (.node (o29 P) (.node (o45 P) (.node (o77 P) (.node (o141 P) (.node (o269 P) .nil .nil) .nil) (.node (o205 P) .nil .nil)) (.node (o109 P) (.node (o173 P) .nil .nil) (.node (o237 P) .nil .nil))) (.node (o61 P) (.node (o93 P) (.node (o157 P) .nil .nil) (.node (o221 P) .nil .nil)) (.node (o125 P) (.node (o189 P) .nil .nil) (.node (o253 P) .nil .nil))))))) (.node (o2 P) (.node (o4 P) (.node (o8 P) (.node (o16 P) (.node (o32 P) (.node (o64 P) (.node (o128 P) (.node (o256 P) .nil .nil) .nil) (.node (o192 P) .nil .nil)) (.node (o96 P) (.node (o160 P) .nil .nil) (.node (o224 P) .nil .nil))) (.node (o48 P) (.node (o80 P) (.node (o144 P) (.node (o272 P) .nil .nil) .nil) (.node (o208 P) .nil .nil)) (.node (o112 P) (.node (o176 P) .nil .nil) (.node (o240 P) .nil .nil)))) (.node (o24 P) (.node (o40 P) (.node (o72 P) (.node (o136 P) (.node (o264 P) .nil .nil) .nil) (.node (o200 P) .nil .nil)) (.node (o104 P) (.node (o168 P) .nil .nil) (.node (o232 P) .nil .nil))) (.node (o56 P) (.node (o88 P) (.node (o152 P) .nil .nil) (.node (o216 P) .nil .nil)) (.node (o120 P) (.node (o184 P) .nil .nil) (.node (o248 P) .nil .nil))))) (.node (q5x12 P) (.node (o20 P) (.node (o36 P) (.node (o68 P) (.node (o132 P) (.node (o260 P) .nil .nil) .nil) (.node (o196 P) .nil .nil)) (.node (o100 P) (.node (o164 P) .nil .nil) (.node (o228 P) .nil .nil))) (.node (o52 P) (.node (o84 P) (.node (o148 P) (.node (o276 P) .nil .nil) .nil) (.node (o212 P) .nil .nil)) (.node (o116 P) (.node (o180 P) .nil .nil) (.node (o244 P) .nil .nil)))) (.node (o28 P) (.node (o44 P) (.node (o76 P) (.node (o140 P) (.node (o268 P) .nil .nil) .nil) (.node (o204 P) .nil .nil)) (.node (o108 P) (.node (o172 P) .nil .nil) (.node (o236 P) .nil .nil))) (.node (o60 P) (.node (o92 P) (.node (o156 P) .nil .nil) (.node (o220 P) .nil .nil)) (.node (o124 P) (.node (o188 P) .nil .nil) (.node (o252 P) .nil .nil)))))) (.node (o6 P) (.node (o10 P) (.node (o18 P) (.node (o34 P) (.node (o66 P) (.node (o130 P) (.node (o258 P) .nil .nil) .nil) (.node (o194 P) .nil .nil)) (.node (o98 P) (.node (o162 P) .nil .nil) (.node (o226 P) .nil .nil))) (.node (o50 P) (.node (o82 P) (.node (o146 P) (.node (o274 P) .nil .nil) .nil) (.node (o210 P) .nil .nil)) (.node (o114 P) (.node (o178 P) .nil .nil) (.node (o242 P) .nil .nil)))) (.node (o26 P) (.node (o42 P) (.node (o74 P) (.node (o138 P) (.node (o266 P) .nil .nil) .nil) (.node (o202 P) .nil .nil)) (.node (o106 P) (.node (o170 P) .nil .nil) (.node (o234 P) .nil .nil))) (.node (o58 P) (.node (o90 P) (.node (o154 P) .nil .nil) (.node (o218 P) .nil .nil)) (.node (o122 P) (.node (o186 P) .nil .nil) (.node (o250 P) .nil .nil))))) (.node (o14 P) (.node (o22 P) (.node (o38 P) (.node (o70 P) (.node (o134 P) (.node (o262 P) .nil .nil) .nil) (.node (o198 P) .nil .nil)) (.node (o102 P) (.node (o166 P) .nil .nil) (.node (o230 P) .nil .nil))) (.node (o54 P) (.node (o86 P) (.node (o150 P) .nil .nil) (.node (o214 P) .nil .nil)) (.node (o118 P) (.node (o182 P) .nil .nil) (.node (o246 P) .nil .nil)))) (.node (o30 P) (.node (o46 P) (.node (o78 P) (.node (o142 P) (.node (o270 P) .nil .nil) .nil) (.node (o206 P) .nil .nil)) (.node (o110 P) (.node (o174 P) .nil .nil) (.node (o238 P) .nil .nil))) (.node (o62 P) (.node (o94 P) (.node (o158 P) .nil .nil) (.node (o222 P) .nil .nil)) (.node (o126 P) (.node (o190 P) .nil .nil) (.node (o254 P) .nil .nil))))))))
noncomputable def sS5 (w : World) (os : OsState) : SharedT := ⟨tr5 w.params, 278, {}, #[], ⟨0, 0, 0, 0⟩, 566, os⟩
noncomputable def q6x3 (P : Params) : Obj := ⟨(.type "dict"), none, (.dict #[⟨PyData.keyHash P (Str.ofString "__name__"), .str (Str.ofString "__name__") 165, (.str (Str.ofString "basicplus.hooks") 669)⟩, ⟨PyData.keyHash P (Str.ofString "__doc__"), .str (Str.ofString "__doc__") 166, .none⟩, ⟨PyData.keyHash P (Str.ofString "__package__"), .str (Str.ofString "__package__") 167, .none⟩, ⟨PyData.keyHash P (Str.ofString "__loader__"), .str (Str.ofString "__loader__") 168, (.builtin "__main__.__loader__#opaque")⟩, ⟨PyData.keyHash P (Str.ofString "__spec__"), .str (Str.ofString "__spec__") 169, .none⟩, ⟨PyData.keyHash P (Str.ofString "__annotations__"), .str (Str.ofString "__annotations__") 170, (.ref 6)⟩, ⟨PyData.keyHash P (Str.ofString "__builtins__"), .str (Str.ofString "__builtins__") 171, (.ref 4)⟩, ⟨PyData.keyHash P (Str.ofString "__file__"), .str (Str.ofString "__file__") 173, (.str (Str.ofString "/claim/cut.py") 172)⟩, ⟨PyData.keyHash P (Str.ofString "__cached__"), .str (Str.ofString "__cached__") 174, .none⟩, ⟨PyData.keyHash P (Str.ofString "MOST_TEXT"), .str (Str.ofString "MOST_TEXT") 190, (.int 255 189)⟩, ⟨PyData.keyHash P (Str.ofString "MOST_EXPONENT"), .str (Str.ofString "MOST_EXPONENT") 192, (.int 99 191)⟩, ⟨PyData.keyHash P (Str.ofString "BasicError"), .str (Str.ofString "BasicError") 226, (.ref 34)⟩, ⟨PyData.keyHash P (Str.ofString "kind_of"), .str (Str.ofString "kind_of") 233, (.ref 44)⟩, ⟨PyData.keyHash P (Str.ofString "figures_of"), .str (Str.ofString "figures_of") 242, (.ref 51)⟩, ⟨PyData.keyHash P (Str.ofString "rounded_by"), .str (Str.ofString "rounded_by") 253, (.ref 58)⟩, ⟨PyData.keyHash P (Str.ofString "made"), .str (Str.ofString "made") 265, (.ref 65)⟩, ⟨PyData.keyHash P (Str.ofString "whole_near"), .str (Str.ofString "whole_near") 275, (.ref 72)⟩, ⟨PyData.keyHash P (Str.ofString "fits"), .str (Str.ofString "fits") 283, (.ref 79)⟩, ⟨PyData.keyHash P (Str.ofString "whole_of"), .str (Str.ofString "whole_of") 292, (.ref 86)⟩, ⟨PyData.keyHash P (Str.ofString "decimal_of"), .str (Str.ofString "decimal_of") 300, (.ref 93)⟩, ⟨PyData.keyHash P (Str.ofString "checked_text"), .str (Str.ofString "checked_text") 307, (.ref 100)⟩, ⟨PyData.keyHash P (Str.ofString "truth"), .str (Str.ofString "truth") 314, (.ref 107)⟩, ⟨PyData.keyHash P (Str.ofString "ONE"), .str (Str.ofString "ONE") 319, (.ref 108)⟩, ⟨PyData.keyHash P (Str.ofString "MOST_POWER"), .str (Str.ofString "MOST_POWER") 321, (.int 9999 320)⟩, ⟨PyData.keyHash P (Str.ofString "d_negated"), .str (Str.ofString "d_negated") 328, (.ref 115)⟩, ⟨PyData.keyHash P (Str.ofString "alike"), .str (Str.ofString "alike") 337, (.ref 122)⟩, ⟨PyData.keyHash P (Str.ofString "d_add"), .str (Str.ofString "d_add") 349, (.ref 129)⟩, ⟨PyData.keyHash P (Str.ofString "d_sub"), .str (Str.ofString "d_sub") 358, (.ref 136)⟩, ⟨PyData.keyHash P (Str.ofString "d_mul"), .str (Str.ofString "d_mul") 367, (.ref 143)⟩, ⟨PyData.keyHash P (Str.ofString "with_rest"), .str (Str.ofString "with_rest") 376, (.ref 150)⟩, ⟨PyData.keyHash P (Str.ofString "d_div"), .str (Str.ofString "d_div") 390, (.ref 157)⟩, ⟨PyData.keyHash P (Str.ofString "d_compare"), .str (Str.ofString "d_compare") 401, (.ref 164)⟩, ⟨PyData.keyHash P (Str.ofString "d_power"), .str (Str.ofString "d_power") 413, (.ref 171)⟩, ⟨PyData.keyHash P (Str.ofString "square_or_end"), .str (Str.ofString "square_or_end") 421, (.ref 178)⟩, ⟨PyData.keyHash P (Str.ofString "is_whole"), .str (Str.ofString "is_whole") 430, (.ref 185)⟩, ⟨PyData.keyHash P (Str.ofString "settled"), .str (Str.ofString "settled") 439, (.ref 192)⟩, ⟨PyData.keyHash P (Str.ofString "whole_reckoned"), .str (Str.ofString "whole_reckoned") 450, (.ref 199)⟩, ⟨PyData.keyHash P (Str.ofString "cut_quotient"), .str (Str.ofString "cut_quotient") 459, (.ref 206)⟩, ⟨PyData.keyHash P (Str.ofString "cut_rest"), .str (Str.ofString "cut_rest") 467, (.ref 213)⟩, ⟨PyData.keyHash P (Str.ofString "exponent_of"), .str (Str.ofString "exponent_of") 474, (.ref 220)⟩, ⟨PyData.keyHash P (Str.ofString "whole_power"), .str (Str.ofString "whole_power") 484, (.ref 227)⟩, ⟨PyData.keyHash P (Str.ofString "raised"), .str (Str.ofString "raised") 495, (.ref 234)⟩, ⟨PyData.keyHash P (Str.ofString "reckoned"), .str (Str.ofString "reckoned") 511, (.ref 241)⟩, ⟨PyData.keyHash P (Str.ofString "negated"), .str (Str.ofString "negated") 520, (.ref 248)⟩, ⟨PyData.keyHash P (Str.ofString "order_of"), .str (Str.ofString "order_of") 528, (.ref 255)⟩, ⟨PyData.keyHash P (Str.ofString "inverted"), .str (Str.ofString "inverted") 536, (.ref 262)⟩, ⟨PyData.keyHash P (Str.ofString "logic"), .str (Str.ofString "logic") 548, (.ref 269)⟩, ⟨PyData.keyHash P (Str.ofString "parts_of_tree"), .str (Str.ofString "parts_of_tree") 557, (.ref 276)⟩, ⟨PyData.keyHash P (Str.ofString "LOGIC"), .str (Str.ofString "LOGIC") 565, (.ref 277)⟩, ⟨PyData.keyHash P (Str.ofString "COMPARISONS"), .str (Str.ofString "COMPARISONS") 572, (.ref 278)⟩, ⟨PyData.keyHash P (Str.ofString "order_of_texts"), .str (Str.ofString "order_of_texts") 580, (.ref 285)⟩, ⟨PyData.keyHash P (Str.ofString "compared"), .str (Str.ofString "compared") 588, (.ref 292)⟩, ⟨PyData.keyHash P (Str.ofString "worth_of_texts"), .str (Str.ofString "worth_of_texts") 597, (.ref 299)⟩, ⟨PyData.keyHash P (Str.ofString "worth_of_two"), .str (Str.ofString "worth_of_two") 603, (.ref 304)⟩, ⟨PyData.keyHash P (Str.ofString "worth_of_one"), .str (Str.ofString "worth_of_one") 613, (.ref 311)⟩, ⟨PyData.keyHash P (Str.ofString "worth_of_leaf"), .str (Str.ofString "worth_of_leaf") 624, (.ref 318)⟩, ⟨PyData.keyHash P (Str.ofString "worth_of_tree"), .str (Str.ofString "worth_of_tree") 634, (.ref 325)⟩, ⟨PyData.keyHash P (Str.ofString "worth"), .str (Str.ofString "worth") 640, (.ref 330)⟩, ⟨PyData.keyHash P (Str.ofString "LEAVES"), .str (Str.ofString "LEAVES") 646, (.ref 331)⟩, ⟨PyData.keyHash P (Str.ofString "leaf_order"), .str (Str.ofString "leaf_order") 655, (.ref 338)⟩, ⟨PyData.keyHash P (Str.ofString "expression_orders"), .str (Str.ofString "expression_orders") 668, (.ref 345)⟩] 61), #[]⟩
noncomputable def q6x12 (P : Params) : Obj := ⟨.none, none, (.fields #[(.int 4 0), (.int 0 0), (.ref 21), (.int 10 0), (.int 0 0), (.ref 43), (.int 14 0), (.int 0 0), (.ref 50), (.int 20 0), (.int 0 0), (.ref 57), (.int 30 0), (.int 0 0), (.ref 64), (.int 45 0), (.int 0 0), (.ref 71), (.int 51 0), (.int 0 0), (.ref 78), (.int 53 0), (.int 0 0), (.ref 85), (.int 60 0), (.int 0 0), (.ref 92), (.int 64 0), (.int 0 0), (.ref 99), (.int 68 0), (.int 0 0), (.ref 106), (.int 73 0), (.int 0 0), (.ref 114), (.int 75 0), (.int 0 0), (.ref 121), (.int 78 0), (.int 0 0), (.ref 128), (.int 81 0), (.int 0 0), (.ref 135), (.int 83 0), (.int 0 0), (.ref 142), (.int 85 0), (.int 0 0), (.ref 149), (.int 87 0), (.int 0 0), (.ref 156), (.int 95 0), (.int 0 0), (.ref 163), (.int 98 0), (.int 0 0), (.ref 170), (.int 112 0), (.int 0 0), (.ref 177), (.int 115 0), (.int 0 0), (.ref 184), (.int 119 0), (.int 0 0), (.ref 191), (.int 121 0), (.int 0 0), (.ref 198), (.int 125 0), (.int 0 0), (.ref 205), (.int 130 0), (.int 0 0), (.ref 212), (.int 132 0), (.int 0 0), (.ref 219), (.int 138 0), (.int 0 0), (.ref 226), (.int 144 0), (.int 0 0), (.ref 233), (.int 149 0), (.int 0 0), (.ref 240), (.int 164 0), (.int 0 0), (.ref 247), (.int 166 0), (.int 0 0), (.ref 254), (.int 172 0), (.int 0 0), (.ref 261), (.int 174 0), (.int 0 0), (.ref 268), (.int 184 0), (.int 0 0), (.ref 275), (.int 193 0), (.int 0 0), (.ref 284), (.int 195 0), (.int 0 0), (.ref 291), (.int 201 0), (.int 0 0), (.ref 298), (.int 207 0), (.int 0 0), (.ref 303), (.int 218 0), (.int 0 0), (.ref 310), (.int 222 0), (.int 0 0), (.ref 317), (.int 227 0), (.int 0 0), (.ref 324), (.int 240 0), (.int 0 0), (.ref 329), (.int 255 0), (.int 0 0), (.ref 337), (.int 260 0), (.int 0 0), (.ref 344)]), #[]⟩
noncomputable def tr6 (P : Params) : BT := (.node (o0 P) (.node (o1 P) (.node (q6x3 P) (.node (o7 P) (.node (o15 P) (.node (o31 P) (.node (o63 P) (.node (o127 P) (.node (o255 P) .nil .nil) .nil) (.node (o191 P) (.node (o319 P) .nil .nil) .nil)) (.node (o95 P) (.node (o159 P) (.node (o287 P) .nil .nil) .nil) (.node (o223 P) .nil .nil))) (.node (o47 P) (.node (o79 P) (.node (o143 P) (.node (o271 P) .nil .nil) .nil) (.node (o207 P) (.node (o335 P) .nil .nil) .nil)) (.node (o111 P) (.node (o175 P) (.node (o303 P) .nil .nil) .nil) (.node (o239 P) .nil .nil)))) (.node (o23 P) (.node (o39 P) (.node (o71 P) (.node (o135 P) (.node (o263 P) .nil .nil) .nil) (.node (o199 P) (.node (o327 P) .nil .nil) .nil)) (.node (o103 P) (.node (o167 P) (.node (o295 P) .nil .nil) .nil) (.node (o231 P) .nil .nil))) (.node (o55 P) (.node (o87 P) (.node (o151 P) (.node (o279 P) .nil .nil) .nil) (.node (o215 P) (.node (o343 P) .nil .nil) .nil)) (.node (o119 P) (.node (o183 P) (.node (o311 P) .nil .nil) .nil) (.node (o247 P) .nil .nil))))) (.node (o11 P) (.node (o19 P) (.node (o35 P) (.node (o67 P) (.node (o131 P) (.node (o259 P) .nil .nil) .nil) (.node (o195 P) (.node (o323 P) .nil .nil) .nil)) (.node (o99 P) (.node (o163 P) (.node (o291 P) .nil .nil) .nil) (.node (o227 P) .nil .nil))) (.node (o51 P) (.node (o83 P) (.node (o147 P) (.node (o275 P) .nil .nil) .nil) (.node (o211 P) (.node (o339 P) .nil .nil) .nil)) (.node (o115 P) (.node (o179 P) (.node (o307 P) .nil .nil) .nil) (.node (o243 P) .nil .nil)))) (.node (o27 P) (.node (o43 P) (.node (o75 P) (.node (o139 P) (.node (o267 P) .nil .nil) .nil) (.node (o203 P) (.node (o331 P) .nil .nil) .nil)) (.node (o107 P) (.node (o171 P) (.node (o299 P) .nil .nil) .nil) (.node (o235 P) .nil .nil))) (.node (o59 P) (.node (o91 P) (.node (o155 P) (.node (o283 P) .nil .nil) .nil) (.node (o219 P) .nil .nil)) (.node (o123 P) (.node (o187 P) (.node (o315 P) .nil .nil) .nil) (.node (o251 P) .nil .nil)))))) (.node (o5 P) (.node (o9 P) (.node (o17 P) (.node (o33 P) (.node (o65 P) (.node (o129 P) (.node (o257 P) .nil .nil) .nil) (.node (o193 P) (.node (o321 P) .nil .nil) .nil)) (.node (o97 P) (.node (o161 P) (.node (o289 P) .nil .nil) .nil) (.node (o225 P) .nil .nil))) (.node (o49 P) (.node (o81 P) (.node (o145 P) (.node (o273 P) .nil .nil) .nil) (.node (o209 P) (.node (o337 P) .nil .nil) .nil)) (.node (o113 P) (.node (o177 P) (.node (o305 P) .nil .nil) .nil) (.node (o241 P) .nil .nil)))) (.node (o25 P) (.node (o41 P) (.node (o73 P) (.node (o137 P) (.node (o265 P) .nil .nil) .nil) (.node (o201 P) (.node (o329 P) .nil .nil) .nil)) (.node (o105 P) (.node (o169 P) (.node (o297 P) .nil .nil) .nil) (.node (o233 P) .nil .nil))) (.node (o57 P) (.node (o89 P) (.node (o153 P) (.node (o281 P) .nil .nil) .nil) (.node (o217 P) (.node (o345 P) .nil .nil) .nil)) (.node (o121 P) (.node (o185 P) (.node (o313 P) .nil .nil) .nil) (.node (o249 P) .nil .nil))))) (.node (o13 P) (.node (o21 P) (.node (o37 P) (.node (o69 P) (.node (o133 P) (.node (o261 P) .nil .nil) .nil) (.node (o197 P) (.node (o325 P) .nil .nil) .nil)) (.node (o101 P) (.node (o165 P) (.node (o293 P) .nil .nil) .nil) (.node (o229 P) .nil .nil))) (.node (o53 P) (.node (o85 P) (.node (o149 P) (.node (o277 P) .nil .nil) .nil) (.node (o213 P) (.node (o341 P) .nil .nil) .nil)) (.node (o117 P) (.node (o181 P) (.node (o309 P) .nil .nil) .nil) (.node (o245 P) .nil .nil)))) (.node (o29 P) (.node (o45 P) (.node (o77 P) (.node (o141 P) (.node (o269 P) .nil .nil) .nil) (.node (o205 P) (.node (o333 P) .nil .nil) .nil)) (.node (o109 P) (.node (o173 P) (.node (o301 P) .nil .nil) .nil) (.node (o237 P) .nil .nil))) (.node (o61 P) (.node (o93 P) (.node (o157 P) (.node (o285 P) .nil .nil) .nil) (.node (o221 P) .nil .nil)) (.node (o125 P) (.node (o189 P) (.node (o317 P) .nil .nil) .nil) (.node (o253 P) .nil .nil))))))) (.node (o2 P) (.node (o4 P) (.node (o8 P) (.node (o16 P) (.node (o32 P) (.node (o64 P) (.node (o128 P) (.node (o256 P) .nil .nil) .nil) (.node (o192 P) (.node (o320 P) .nil .nil) .nil)) (.node (o96 P) (.node (o160 P) (.node (o288 P) .nil .nil) .nil) (.node (o224 P) .nil .nil))) (.node (o48 P) (.node (o80 P) (.node (o144 P) (.node (o272 P) .nil .nil) .nil) (.node (o208 P) (.node (o336 P) .nil .nil) .nil)) (.node (o112 P) (.node (o176 P) (.node (o304 P) .nil .nil) .nil) (.node (o240 P) .nil .nil)))) (.node (o24 P) (.node (o40 P) (.node (o72 P) (.node (o136 P) (.node (o264 P) .nil .nil) .nil) (.node (o200 P) (.node (o328 P) .nil .nil) .nil)) (.node (o104 P) (.node (o168 P) (.node (o296 P) .nil .nil) .nil) (.node (o232 P) .nil .nil))) (.node (o56 P) (.node (o88 P) (.node (o152 P) (.node (o280 P) .nil .nil) .nil) (.node (o216 P) (.node (o344 P) .nil .nil) .nil)) (.node (o120 P) (.node (o184 P) (.node (o312 P) .nil .nil) .nil) (.node (o248 P) .nil .nil))))) (.node (q6x12 P) (.node (o20 P) (.node (o36 P) (.node (o68 P) (.node (o132 P) (.node (o260 P) .nil .nil) .nil) (.node (o196 P) (.node (o324 P) .nil .nil) .nil)) (.node (o100 P) (.node (o164 P) (.node (o292 P) .nil .nil) .nil) (.node (o228 P) .nil .nil))) (.node (o52 P) (.node (o84 P) (.node (o148 P) (.node (o276 P) .nil .nil) .nil) (.node (o212 P) (.node (o340 P) .nil .nil) .nil)) (.node (o116 P) (.node (o180 P) (.node (o308 P) .nil .nil) .nil) (.node (o244 P) .nil .nil)))) (.node (o28 P) (.node (o44 P) (.node (o76 P) (.node (o140 P) (.node (o268 P) .nil .nil) .nil) (.node (o204 P) (.node (o332 P) .nil .nil) .nil)) (.node (o108 P) (.node (o172 P) (.node (o300 P) .nil .nil) .nil) (.node (o236 P) .nil .nil))) (.node (o60 P) (.node (o92 P) (.node (o156 P) (.node (o284 P) .nil .nil) .nil) (.node (o220 P) .nil .nil)) (.node (o124 P) (.node (o188 P) (.node (o316 P) .nil .nil) .nil) (.node (o252 P) .nil .nil)))))) (.node (o6 P) (.node (o10 P) (.node (o18 P) (.node (o34 P) (.node (o66 P) (.node (o130 P) (.node (o258 P) .nil .nil) .nil) (.node (o194 P) (.node (o322 P) .nil .nil) .nil)) (.node (o98 P) (.node (o162 P) (.node (o290 P) .nil .nil) .nil) (.node (o226 P) .nil .nil))) (.node (o50 P) (.node (o82 P) (.node (o146 P) (.node (o274 P) .nil .nil) .nil) (.node (o210 P) (.node (o338 P) .nil .nil) .nil)) (.node (o114 P) (.node (o178 P) (.node (o306 P) .nil .nil) .nil) (.node (o242 P) .nil .nil)))) (.node (o26 P) (.node (o42 P) (.node (o74 P) (.node (o138 P) (.node (o266 P) .nil .nil) .nil) (.node (o202 P) (.node (o330 P) .nil .nil) .nil)) (.node (o106 P) (.node (o170 P) (.node (o298 P) .nil .nil) .nil) (.node (o234 P) .nil .nil))) (.node (o58 P) (.node (o90 P) (.node (o154 P) (.node (o282 P) .nil .nil) .nil) (.node (o218 P) .nil .nil)) (.node (o122 P) (.node (o186 P) (.node (o314 P) .nil .nil) .nil) (.node (o250 P) .nil .nil))))) (.node (o14 P) (.node (o22 P) (.node (o38 P) (.node (o70 P) (.node (o134 P) (.node (o262 P) .nil .nil) .nil) (.node (o198 P) (.node (o326 P) .nil .nil) .nil)) (.node (o102 P) (.node (o166 P) (.node (o294 P) .nil .nil) .nil) (.node (o230 P) .nil .nil))) (.node (o54 P) (.node (o86 P) (.node (o150 P) (.node (o278 P) .nil .nil) .nil) (.node (o214 P) (.node (o342 P) .nil .nil) .nil)) (.node (o118 P) (.node (o182 P) (.node (o310 P) .nil .nil) .nil) (.node (o246 P) .nil .nil)))) (.node (o30 P) (.node (o46 P) (.node (o78 P) (.node (o142 P) (.node (o270 P) .nil .nil) .nil) (.node (o206 P) (.node (o334 P) .nil .nil) .nil)) (.node (o110 P) (.node (o174 P) (.node (o302 P) .nil .nil) .nil) (.node (o238 P) .nil .nil))) (.node (o62 P) (.node (o94 P) (.node (o158 P) (.node (o286 P) .nil .nil) .nil) (.node (o222 P) .nil .nil)) (.node (o126 P) (.node (o190 P) (.node (o318 P) .nil .nil) .nil) (.node (o254 P) .nil .nil))))))))
noncomputable def sS6 (w : World) (os : OsState) : SharedT := ⟨tr6 w.params, 346, {}, #[], ⟨0, 0, 0, 0⟩, 671, os⟩
noncomputable def q7x3 (P : Params) : Obj := ⟨(.type "dict"), none, (.dict #[⟨PyData.keyHash P (Str.ofString "__name__"), .str (Str.ofString "__name__") 165, (.str (Str.ofString "basicplus.hooks") 669)⟩, ⟨PyData.keyHash P (Str.ofString "__doc__"), .str (Str.ofString "__doc__") 166, .none⟩, ⟨PyData.keyHash P (Str.ofString "__package__"), .str (Str.ofString "__package__") 167, .none⟩, ⟨PyData.keyHash P (Str.ofString "__loader__"), .str (Str.ofString "__loader__") 168, (.builtin "__main__.__loader__#opaque")⟩, ⟨PyData.keyHash P (Str.ofString "__spec__"), .str (Str.ofString "__spec__") 169, .none⟩, ⟨PyData.keyHash P (Str.ofString "__annotations__"), .str (Str.ofString "__annotations__") 170, (.ref 6)⟩, ⟨PyData.keyHash P (Str.ofString "__builtins__"), .str (Str.ofString "__builtins__") 171, (.ref 4)⟩, ⟨PyData.keyHash P (Str.ofString "__file__"), .str (Str.ofString "__file__") 173, (.str (Str.ofString "/claim/cut.py") 172)⟩, ⟨PyData.keyHash P (Str.ofString "__cached__"), .str (Str.ofString "__cached__") 174, .none⟩, ⟨PyData.keyHash P (Str.ofString "MOST_TEXT"), .str (Str.ofString "MOST_TEXT") 190, (.int 255 189)⟩, ⟨PyData.keyHash P (Str.ofString "MOST_EXPONENT"), .str (Str.ofString "MOST_EXPONENT") 192, (.int 99 191)⟩, ⟨PyData.keyHash P (Str.ofString "BasicError"), .str (Str.ofString "BasicError") 226, (.ref 34)⟩, ⟨PyData.keyHash P (Str.ofString "kind_of"), .str (Str.ofString "kind_of") 233, (.ref 44)⟩, ⟨PyData.keyHash P (Str.ofString "figures_of"), .str (Str.ofString "figures_of") 242, (.ref 51)⟩, ⟨PyData.keyHash P (Str.ofString "rounded_by"), .str (Str.ofString "rounded_by") 253, (.ref 58)⟩, ⟨PyData.keyHash P (Str.ofString "made"), .str (Str.ofString "made") 265, (.ref 65)⟩, ⟨PyData.keyHash P (Str.ofString "whole_near"), .str (Str.ofString "whole_near") 275, (.ref 72)⟩, ⟨PyData.keyHash P (Str.ofString "fits"), .str (Str.ofString "fits") 283, (.ref 79)⟩, ⟨PyData.keyHash P (Str.ofString "whole_of"), .str (Str.ofString "whole_of") 292, (.ref 86)⟩, ⟨PyData.keyHash P (Str.ofString "decimal_of"), .str (Str.ofString "decimal_of") 300, (.ref 93)⟩, ⟨PyData.keyHash P (Str.ofString "checked_text"), .str (Str.ofString "checked_text") 307, (.ref 100)⟩, ⟨PyData.keyHash P (Str.ofString "truth"), .str (Str.ofString "truth") 314, (.ref 107)⟩, ⟨PyData.keyHash P (Str.ofString "ONE"), .str (Str.ofString "ONE") 319, (.ref 108)⟩, ⟨PyData.keyHash P (Str.ofString "MOST_POWER"), .str (Str.ofString "MOST_POWER") 321, (.int 9999 320)⟩, ⟨PyData.keyHash P (Str.ofString "d_negated"), .str (Str.ofString "d_negated") 328, (.ref 115)⟩, ⟨PyData.keyHash P (Str.ofString "alike"), .str (Str.ofString "alike") 337, (.ref 122)⟩, ⟨PyData.keyHash P (Str.ofString "d_add"), .str (Str.ofString "d_add") 349, (.ref 129)⟩, ⟨PyData.keyHash P (Str.ofString "d_sub"), .str (Str.ofString "d_sub") 358, (.ref 136)⟩, ⟨PyData.keyHash P (Str.ofString "d_mul"), .str (Str.ofString "d_mul") 367, (.ref 143)⟩, ⟨PyData.keyHash P (Str.ofString "with_rest"), .str (Str.ofString "with_rest") 376, (.ref 150)⟩, ⟨PyData.keyHash P (Str.ofString "d_div"), .str (Str.ofString "d_div") 390, (.ref 157)⟩, ⟨PyData.keyHash P (Str.ofString "d_compare"), .str (Str.ofString "d_compare") 401, (.ref 164)⟩, ⟨PyData.keyHash P (Str.ofString "d_power"), .str (Str.ofString "d_power") 413, (.ref 171)⟩, ⟨PyData.keyHash P (Str.ofString "square_or_end"), .str (Str.ofString "square_or_end") 421, (.ref 178)⟩, ⟨PyData.keyHash P (Str.ofString "is_whole"), .str (Str.ofString "is_whole") 430, (.ref 185)⟩, ⟨PyData.keyHash P (Str.ofString "settled"), .str (Str.ofString "settled") 439, (.ref 192)⟩, ⟨PyData.keyHash P (Str.ofString "whole_reckoned"), .str (Str.ofString "whole_reckoned") 450, (.ref 199)⟩, ⟨PyData.keyHash P (Str.ofString "cut_quotient"), .str (Str.ofString "cut_quotient") 459, (.ref 206)⟩, ⟨PyData.keyHash P (Str.ofString "cut_rest"), .str (Str.ofString "cut_rest") 467, (.ref 213)⟩, ⟨PyData.keyHash P (Str.ofString "exponent_of"), .str (Str.ofString "exponent_of") 474, (.ref 220)⟩, ⟨PyData.keyHash P (Str.ofString "whole_power"), .str (Str.ofString "whole_power") 484, (.ref 227)⟩, ⟨PyData.keyHash P (Str.ofString "raised"), .str (Str.ofString "raised") 495, (.ref 234)⟩, ⟨PyData.keyHash P (Str.ofString "reckoned"), .str (Str.ofString "reckoned") 511, (.ref 241)⟩, ⟨PyData.keyHash P (Str.ofString "negated"), .str (Str.ofString "negated") 520, (.ref 248)⟩, ⟨PyData.keyHash P (Str.ofString "order_of"), .str (Str.ofString "order_of") 528, (.ref 255)⟩, ⟨PyData.keyHash P (Str.ofString "inverted"), .str (Str.ofString "inverted") 536, (.ref 262)⟩, ⟨PyData.keyHash P (Str.ofString "logic"), .str (Str.ofString "logic") 548, (.ref 269)⟩, ⟨PyData.keyHash P (Str.ofString "parts_of_tree"), .str (Str.ofString "parts_of_tree") 557, (.ref 276)⟩, ⟨PyData.keyHash P (Str.ofString "LOGIC"), .str (Str.ofString "LOGIC") 565, (.ref 277)⟩, ⟨PyData.keyHash P (Str.ofString "COMPARISONS"), .str (Str.ofString "COMPARISONS") 572, (.ref 278)⟩, ⟨PyData.keyHash P (Str.ofString "order_of_texts"), .str (Str.ofString "order_of_texts") 580, (.ref 285)⟩, ⟨PyData.keyHash P (Str.ofString "compared"), .str (Str.ofString "compared") 588, (.ref 292)⟩, ⟨PyData.keyHash P (Str.ofString "worth_of_texts"), .str (Str.ofString "worth_of_texts") 597, (.ref 299)⟩, ⟨PyData.keyHash P (Str.ofString "worth_of_two"), .str (Str.ofString "worth_of_two") 603, (.ref 304)⟩, ⟨PyData.keyHash P (Str.ofString "worth_of_one"), .str (Str.ofString "worth_of_one") 613, (.ref 311)⟩, ⟨PyData.keyHash P (Str.ofString "worth_of_leaf"), .str (Str.ofString "worth_of_leaf") 624, (.ref 318)⟩, ⟨PyData.keyHash P (Str.ofString "worth_of_tree"), .str (Str.ofString "worth_of_tree") 634, (.ref 325)⟩, ⟨PyData.keyHash P (Str.ofString "worth"), .str (Str.ofString "worth") 640, (.ref 330)⟩, ⟨PyData.keyHash P (Str.ofString "LEAVES"), .str (Str.ofString "LEAVES") 646, (.ref 331)⟩, ⟨PyData.keyHash P (Str.ofString "leaf_order"), .str (Str.ofString "leaf_order") 655, (.ref 338)⟩, ⟨PyData.keyHash P (Str.ofString "expression_orders"), .str (Str.ofString "expression_orders") 668, (.ref 345)⟩, ⟨PyData.keyHash P (Str.ofString "PlainHooks"), .str (Str.ofString "PlainHooks") 750, (.ref 397)⟩] 62), #[]⟩
noncomputable def q7x12 (P : Params) : Obj := ⟨.none, none, (.fields #[(.int 4 0), (.int 0 0), (.ref 21), (.int 10 0), (.int 0 0), (.ref 43), (.int 14 0), (.int 0 0), (.ref 50), (.int 20 0), (.int 0 0), (.ref 57), (.int 30 0), (.int 0 0), (.ref 64), (.int 45 0), (.int 0 0), (.ref 71), (.int 51 0), (.int 0 0), (.ref 78), (.int 53 0), (.int 0 0), (.ref 85), (.int 60 0), (.int 0 0), (.ref 92), (.int 64 0), (.int 0 0), (.ref 99), (.int 68 0), (.int 0 0), (.ref 106), (.int 73 0), (.int 0 0), (.ref 114), (.int 75 0), (.int 0 0), (.ref 121), (.int 78 0), (.int 0 0), (.ref 128), (.int 81 0), (.int 0 0), (.ref 135), (.int 83 0), (.int 0 0), (.ref 142), (.int 85 0), (.int 0 0), (.ref 149), (.int 87 0), (.int 0 0), (.ref 156), (.int 95 0), (.int 0 0), (.ref 163), (.int 98 0), (.int 0 0), (.ref 170), (.int 112 0), (.int 0 0), (.ref 177), (.int 115 0), (.int 0 0), (.ref 184), (.int 119 0), (.int 0 0), (.ref 191), (.int 121 0), (.int 0 0), (.ref 198), (.int 125 0), (.int 0 0), (.ref 205), (.int 130 0), (.int 0 0), (.ref 212), (.int 132 0), (.int 0 0), (.ref 219), (.int 138 0), (.int 0 0), (.ref 226), (.int 144 0), (.int 0 0), (.ref 233), (.int 149 0), (.int 0 0), (.ref 240), (.int 164 0), (.int 0 0), (.ref 247), (.int 166 0), (.int 0 0), (.ref 254), (.int 172 0), (.int 0 0), (.ref 261), (.int 174 0), (.int 0 0), (.ref 268), (.int 184 0), (.int 0 0), (.ref 275), (.int 193 0), (.int 0 0), (.ref 284), (.int 195 0), (.int 0 0), (.ref 291), (.int 201 0), (.int 0 0), (.ref 298), (.int 207 0), (.int 0 0), (.ref 303), (.int 218 0), (.int 0 0), (.ref 310), (.int 222 0), (.int 0 0), (.ref 317), (.int 227 0), (.int 0 0), (.ref 324), (.int 240 0), (.int 0 0), (.ref 329), (.int 255 0), (.int 0 0), (.ref 337), (.int 260 0), (.int 0 0), (.ref 344), (.int 281 0), (.int 0 0), (.ref 351)]), #[]⟩
noncomputable def tr7 (P : Params) : BT := (.node (o0 P) (.node (o1 P) (.node (q7x3 P) (.node (o7 P) (.node (o15 P) (.node (o31 P) (.node (o63 P) (.node (o127 P) (.node (o255 P) .nil .nil) (.node (o383 P) .nil .nil)) (.node (o191 P) (.node (o319 P) .nil .nil) .nil)) (.node (o95 P) (.node (o159 P) (.node (o287 P) .nil .nil) .nil) (.node (o223 P) (.node (o351 P) .nil .nil) .nil))) (.node (o47 P) (.node (o79 P) (.node (o143 P) (.node (o271 P) .nil .nil) (.node (o399 P) .nil .nil)) (.node (o207 P) (.node (o335 P) .nil .nil) .nil)) (.node (o111 P) (.node (o175 P) (.node (o303 P) .nil .nil) .nil) (.node (o239 P) (.node (o367 P) .nil .nil) .nil)))) (.node (o23 P) (.node (o39 P) (.node (o71 P) (.node (o135 P) (.node (o263 P) .nil .nil) (.node (o391 P) .nil .nil)) (.node (o199 P) (.node (o327 P) .nil .nil) .nil)) (.node (o103 P) (.node (o167 P) (.node (o295 P) .nil .nil) .nil) (.node (o231 P) (.node (o359 P) .nil .nil) .nil))) (.node (o55 P) (.node (o87 P) (.node (o151 P) (.node (o279 P) .nil .nil) .nil) (.node (o215 P) (.node (o343 P) .nil .nil) .nil)) (.node (o119 P) (.node (o183 P) (.node (o311 P) .nil .nil) .nil) (.node (o247 P) (.node (o375 P) .nil .nil) .nil))))) (.node (o11 P) (.node (o19 P) (.node (o35 P) (.node (o67 P) (.node (o131 P) (.node (o259 P) .nil .nil) (.node (o387 P) .nil .nil)) (.node (o195 P) (.node (o323 P) .nil .nil) .nil)) (.node (o99 P) (.node (o163 P) (.node (o291 P) .nil .nil) .nil) (.node (o227 P) (.node (o355 P) .nil .nil) .nil))) (.node (o51 P) (.node (o83 P) (.node (o147 P) (.node (o275 P) .nil .nil) .nil) (.node (o211 P) (.node (o339 P) .nil .nil) .nil)) (.node (o115 P) (.node (o179 P) (.node (o307 P) .nil .nil) .nil) (.node (o243 P) (.node (o371 P) .nil .nil) .nil)))) (.node (o27 P) (.node (o43 P) (.node (o75 P) (.node (o139 P) (.node (o267 P) .nil .nil) (.node (o395 P) .nil .nil)) (.node (o203 P) (.node (o331 P) .nil .nil) .nil)) (.node (o107 P) (.node (o171 P) (.node (o299 P) .nil .nil) .nil) (.node (o235 P) (.node (o363 P) .nil .nil) .nil))) (.node (o59 P) (.node (o91 P) (.node (o155 P) (.node (o283 P) .nil .nil) .nil) (.node (o219 P) (.node (o347 P) .nil .nil) .nil)) (.node (o123 P) (.node (o187 P) (.node (o315 P) .nil .nil) .nil) (.node (o251 P) (.node (o379 P) .nil .nil) .nil)))))) (.node (o5 P) (.node (o9 P) (.node (o17 P) (.node (o33 P) (.node (o65 P) (.node (o129 P) (.node (o257 P) .nil .nil) (.node (o385 P) .nil .nil)) (.node (o193 P) (.node (o321 P) .nil .nil) .nil)) (.node (o97 P) (.node (o161 P) (.node (o289 P) .nil .nil) .nil) (.node (o225 P) (.node (o353 P) .nil .nil) .nil))) (.node (o49 P) (.node (o81 P) (.node (o145 P) (.node (o273 P) .nil .nil) (.node (o401 P) .nil .nil)) (.node (o209 P) (.node (o337 P) .nil .nil) .nil)) (.node (o113 P) (.node (o177 P) (.node (o305 P) .nil .nil) .nil) (.node (o241 P) (.node (o369 P) .nil .nil) .nil)))) (.node (o25 P) (.node (o41 P) (.node (o73 P) (.node (o137 P) (.node (o265 P) .nil .nil) (.node (o393 P) .nil .nil)) (.node (o201 P) (.node (o329 P) .nil .nil) .nil)) (.node (o105 P) (.node (o169 P) (.node (o297 P) .nil .nil) .nil) (.node (o233 P) (.node (o361 P) .nil .nil) .nil))) (.node (o57 P) (.node (o89 P) (.node (o153 P) (.node (o281 P) .nil .nil) .nil) (.node (o217 P) (.node (o345 P) .nil .nil) .nil)) (.node (o121 P) (.node (o185 P) (.node (o313 P) .nil .nil) .nil) (.node (o249 P) (.node (o377 P) .nil .nil) .nil))))) (.node (o13 P) (.node (o21 P) (.node (o37 P) (.node (o69 P) (.node (o133 P) (.node (o261 P) .nil .nil) (.node (o389 P) .nil .nil)) (.node (o197 P) (.node (o325 P) .nil .nil) .nil)) (.node (o101 P) (.node (o165 P) (.node (o293 P) .nil .nil) .nil) (.node (o229 P) (.node (o357 P) .nil .nil) .nil))) (.node (o53 P) (.node (o85 P) (.node (o149 P) (.node (o277 P) .nil .nil) .nil) (.node (o213 P) (.node (o341 P) .nil .nil) .nil)) (.node (o117 P) (.node (o181 P) (.node (o309 P) .nil .nil) .nil) (.node (o245 P) (.node (o373 P) .nil .nil) .nil)))) (.node (o29 P) (.node (o45 P) (.node (o77 P) (.node (o141 P) (.node (o269 P) .nil .nil) (.node (o397 P) .nil .nil)) (.node (o205 P) (.node (o333 P) .nil .nil) .nil)) (.node (o109 P) (.node (o173 P) (.node (o301 P) .nil .nil) .nil) (.node (o237 P) (.node (o365 P) .nil .nil) .nil))) (.node (o61 P) (.node (o93 P) (.node (o157 P) (.node (o285 P) .nil .nil) .nil) (.node (o221 P) (.node (o349 P) .nil .nil) .nil)) (.node (o125 P) (.node (o189 P) (.node (o317 P) .nil .nil) .nil) (.node (o253 P) (.node (o381 P) .nil .nil) .nil))))))) (.node (o2 P) (.node (o4 P) (.node (o8 P) (.node (o16 P) (.node (o32 P) (.node (o64 P) (.node (o128 P) (.node (o256 P) .nil .nil) (.node (o384 P) .nil .nil)) (.node (o192 P) (.node (o320 P) .nil .nil) .nil)) (.node (o96 P) (.node (o160 P) (.node (o288 P) .nil .nil) .nil) (.node (o224 P) (.node (o352 P) .nil .nil) .nil))) (.node (o48 P) (.node (o80 P) (.node (o144 P) (.node (o272 P) .nil .nil) (.node (o400 P) .nil .nil)) (.node (o208 P) (.node (o336 P) .nil .nil) .nil)) (.node (o112 P) (.node (o176 P) (.node (o304 P) .nil .nil) .nil) (.node (o240 P) (.node (o368 P) .nil .nil) .nil)))) (.node (o24 P) (.node (o40 P) (.node (o72 P) (.node (o136 P) (.node (o264 P) .nil .nil) (.node (o392 P) .nil .nil)) (.node (o200 P) (.node (o328 P) .nil .nil) .nil)) (.node (o104 P) (.node (o168 P) (.node (o296 P) .nil .nil) .nil) (.node (o232 P) (.node (o360 P) .nil .nil) .nil))) (.node (o56 P) (.node (o88 P) (.node (o152 P) (.node (o280 P) .nil .nil) .nil) (.node (o216 P) (.node (o344 P) .nil .nil) .nil)) (.node (o120 P) (.node (o184 P) (.node (o312 P) .nil .nil) .nil) (.node (o248 P) (.node (o376 P) .nil .nil) .nil))))) (.node (q7x12 P) (.node (o20 P) (.node (o36 P) (.node (o68 P) (.node (o132 P) (.node (o260 P) .nil .nil) (.node (o388 P) .nil .nil)) (.node (o196 P) (.node (o324 P) .nil .nil) .nil)) (.node (o100 P) (.node (o164 P) (.node (o292 P) .nil .nil) .nil) (.node (o228 P) (.node (o356 P) .nil .nil) .nil))) (.node (o52 P) (.node (o84 P) (.node (o148 P) (.node (o276 P) .nil .nil) .nil) (.node (o212 P) (.node (o340 P) .nil .nil) .nil)) (.node (o116 P) (.node (o180 P) (.node (o308 P) .nil .nil) .nil) (.node (o244 P) (.node (o372 P) .nil .nil) .nil)))) (.node (o28 P) (.node (o44 P) (.node (o76 P) (.node (o140 P) (.node (o268 P) .nil .nil) (.node (o396 P) .nil .nil)) (.node (o204 P) (.node (o332 P) .nil .nil) .nil)) (.node (o108 P) (.node (o172 P) (.node (o300 P) .nil .nil) .nil) (.node (o236 P) (.node (o364 P) .nil .nil) .nil))) (.node (o60 P) (.node (o92 P) (.node (o156 P) (.node (o284 P) .nil .nil) .nil) (.node (o220 P) (.node (o348 P) .nil .nil) .nil)) (.node (o124 P) (.node (o188 P) (.node (o316 P) .nil .nil) .nil) (.node (o252 P) (.node (o380 P) .nil .nil) .nil)))))) (.node (o6 P) (.node (o10 P) (.node (o18 P) (.node (o34 P) (.node (o66 P) (.node (o130 P) (.node (o258 P) .nil .nil) (.node (o386 P) .nil .nil)) (.node (o194 P) (.node (o322 P) .nil .nil) .nil)) (.node (o98 P) (.node (o162 P) (.node (o290 P) .nil .nil) .nil) (.node (o226 P) (.node (o354 P) .nil .nil) .nil))) (.node (o50 P) (.node (o82 P) (.node (o146 P) (.node (o274 P) .nil .nil) .nil) (.node (o210 P) (.node (o338 P) .nil .nil) .nil)) (.node (o114 P) (.node (o178 P) (.node (o306 P) .nil .nil) .nil) (.node (o242 P) (.node (o370 P) .nil .nil) .nil)))) (.node (o26 P) (.node (o42 P) (.node (o74 P) (.node (o138 P) (.node (o266 P) .nil .nil) (.node (o394 P) .nil .nil)) (.node (o202 P) (.node (o330 P) .nil .nil) .nil)) (.node (o106 P) (.node (o170 P) (.node (o298 P) .nil .nil) .nil) (.node (o234 P) (.node (o362 P) .nil .nil) .nil))) (.node (o58 P) (.node (o90 P) (.node (o154 P) (.node (o282 P) .nil .nil) .nil) (.node (o218 P) (.node (o346 P) .nil .nil) .nil)) (.node (o122 P) (.node (o186 P) (.node (o314 P) .nil .nil) .nil) (.node (o250 P) (.node (o378 P) .nil .nil) .nil))))) (.node (o14 P) (.node (o22 P) (.node (o38 P) (.node (o70 P) (.node (o134 P) (.node (o262 P) .nil .nil) (.node (o390 P) .nil .nil)) (.node (o198 P) (.node (o326 P) .nil .nil) .nil)) (.node (o102 P) (.node (o166 P) (.node (o294 P) .nil .nil) .nil) (.node (o230 P) (.node (o358 P) .nil .nil) .nil))) (.node (o54 P) (.node (o86 P) (.node (o150 P) (.node (o278 P) .nil .nil) .nil) (.node (o214 P) (.node (o342 P) .nil .nil) .nil)) (.node (o118 P) (.node (o182 P) (.node (o310 P) .nil .nil) .nil) (.node (o246 P) (.node (o374 P) .nil .nil) .nil)))) (.node (o30 P) (.node (o46 P) (.node (o78 P) (.node (o142 P) (.node (o270 P) .nil .nil) (.node (o398 P) .nil .nil)) (.node (o206 P) (.node (o334 P) .nil .nil) .nil)) (.node (o110 P) (.node (o174 P) (.node (o302 P) .nil .nil) .nil) (.node (o238 P) (.node (o366 P) .nil .nil) .nil))) (.node (o62 P) (.node (o94 P) (.node (o158 P) (.node (o286 P) .nil .nil) .nil) (.node (o222 P) (.node (o350 P) .nil .nil) .nil)) (.node (o126 P) (.node (o190 P) (.node (o318 P) .nil .nil) .nil) (.node (o254 P) (.node (o382 P) .nil .nil) .nil))))))))
noncomputable def sS7 (w : World) (os : OsState) : SharedT := ⟨tr7 w.params, 402, {}, #[], ⟨0, 0, 0, 0⟩, 751, os⟩
noncomputable def tr8 (P : Params) : BT := (.node (o0 P) (.node (o1 P) (.node (o3 P) (.node (o7 P) (.node (o15 P) (.node (o31 P) (.node (o63 P) (.node (o127 P) (.node (o255 P) .nil .nil) (.node (o383 P) .nil .nil)) (.node (o191 P) (.node (o319 P) .nil .nil) (.node (o447 P) .nil .nil))) (.node (o95 P) (.node (o159 P) (.node (o287 P) .nil .nil) (.node (o415 P) .nil .nil)) (.node (o223 P) (.node (o351 P) .nil .nil) .nil))) (.node (o47 P) (.node (o79 P) (.node (o143 P) (.node (o271 P) .nil .nil) (.node (o399 P) .nil .nil)) (.node (o207 P) (.node (o335 P) .nil .nil) .nil)) (.node (o111 P) (.node (o175 P) (.node (o303 P) .nil .nil) (.node (o431 P) .nil .nil)) (.node (o239 P) (.node (o367 P) .nil .nil) .nil)))) (.node (o23 P) (.node (o39 P) (.node (o71 P) (.node (o135 P) (.node (o263 P) .nil .nil) (.node (o391 P) .nil .nil)) (.node (o199 P) (.node (o327 P) .nil .nil) .nil)) (.node (o103 P) (.node (o167 P) (.node (o295 P) .nil .nil) (.node (o423 P) .nil .nil)) (.node (o231 P) (.node (o359 P) .nil .nil) .nil))) (.node (o55 P) (.node (o87 P) (.node (o151 P) (.node (o279 P) .nil .nil) (.node (o407 P) .nil .nil)) (.node (o215 P) (.node (o343 P) .nil .nil) .nil)) (.node (o119 P) (.node (o183 P) (.node (o311 P) .nil .nil) (.node (o439 P) .nil .nil)) (.node (o247 P) (.node (o375 P) .nil .nil) .nil))))) (.node (o11 P) (.node (o19 P) (.node (o35 P) (.node (o67 P) (.node (o131 P) (.node (o259 P) .nil .nil) (.node (o387 P) .nil .nil)) (.node (o195 P) (.node (o323 P) .nil .nil) (.node (o451 P) .nil .nil))) (.node (o99 P) (.node (o163 P) (.node (o291 P) .nil .nil) (.node (o419 P) .nil .nil)) (.node (o227 P) (.node (o355 P) .nil .nil) .nil))) (.node (o51 P) (.node (o83 P) (.node (o147 P) (.node (o275 P) .nil .nil) (.node (o403 P) .nil .nil)) (.node (o211 P) (.node (o339 P) .nil .nil) .nil)) (.node (o115 P) (.node (o179 P) (.node (o307 P) .nil .nil) (.node (o435 P) .nil .nil)) (.node (o243 P) (.node (o371 P) .nil .nil) .nil)))) (.node (o27 P) (.node (o43 P) (.node (o75 P) (.node (o139 P) (.node (o267 P) .nil .nil) (.node (o395 P) .nil .nil)) (.node (o203 P) (.node (o331 P) .nil .nil) .nil)) (.node (o107 P) (.node (o171 P) (.node (o299 P) .nil .nil) (.node (o427 P) .nil .nil)) (.node (o235 P) (.node (o363 P) .nil .nil) .nil))) (.node (o59 P) (.node (o91 P) (.node (o155 P) (.node (o283 P) .nil .nil) (.node (o411 P) .nil .nil)) (.node (o219 P) (.node (o347 P) .nil .nil) .nil)) (.node (o123 P) (.node (o187 P) (.node (o315 P) .nil .nil) (.node (o443 P) .nil .nil)) (.node (o251 P) (.node (o379 P) .nil .nil) .nil)))))) (.node (o5 P) (.node (o9 P) (.node (o17 P) (.node (o33 P) (.node (o65 P) (.node (o129 P) (.node (o257 P) .nil .nil) (.node (o385 P) .nil .nil)) (.node (o193 P) (.node (o321 P) .nil .nil) (.node (o449 P) .nil .nil))) (.node (o97 P) (.node (o161 P) (.node (o289 P) .nil .nil) (.node (o417 P) .nil .nil)) (.node (o225 P) (.node (o353 P) .nil .nil) .nil))) (.node (o49 P) (.node (o81 P) (.node (o145 P) (.node (o273 P) .nil .nil) (.node (o401 P) .nil .nil)) (.node (o209 P) (.node (o337 P) .nil .nil) .nil)) (.node (o113 P) (.node (o177 P) (.node (o305 P) .nil .nil) (.node (o433 P) .nil .nil)) (.node (o241 P) (.node (o369 P) .nil .nil) .nil)))) (.node (o25 P) (.node (o41 P) (.node (o73 P) (.node (o137 P) (.node (o265 P) .nil .nil) (.node (o393 P) .nil .nil)) (.node (o201 P) (.node (o329 P) .nil .nil) .nil)) (.node (o105 P) (.node (o169 P) (.node (o297 P) .nil .nil) (.node (o425 P) .nil .nil)) (.node (o233 P) (.node (o361 P) .nil .nil) .nil))) (.node (o57 P) (.node (o89 P) (.node (o153 P) (.node (o281 P) .nil .nil) (.node (o409 P) .nil .nil)) (.node (o217 P) (.node (o345 P) .nil .nil) .nil)) (.node (o121 P) (.node (o185 P) (.node (o313 P) .nil .nil) (.node (o441 P) .nil .nil)) (.node (o249 P) (.node (o377 P) .nil .nil) .nil))))) (.node (o13 P) (.node (o21 P) (.node (o37 P) (.node (o69 P) (.node (o133 P) (.node (o261 P) .nil .nil) (.node (o389 P) .nil .nil)) (.node (o197 P) (.node (o325 P) .nil .nil) (.node (o453 P) .nil .nil))) (.node (o101 P) (.node (o165 P) (.node (o293 P) .nil .nil) (.node (o421 P) .nil .nil)) (.node (o229 P) (.node (o357 P) .nil .nil) .nil))) (.node (o53 P) (.node (o85 P) (.node (o149 P) (.node (o277 P) .nil .nil) (.node (o405 P) .nil .nil)) (.node (o213 P) (.node (o341 P) .nil .nil) .nil)) (.node (o117 P) (.node (o181 P) (.node (o309 P) .nil .nil) (.node (o437 P) .nil .nil)) (.node (o245 P) (.node (o373 P) .nil .nil) .nil)))) (.node (o29 P) (.node (o45 P) (.node (o77 P) (.node (o141 P) (.node (o269 P) .nil .nil) (.node (o397 P) .nil .nil)) (.node (o205 P) (.node (o333 P) .nil .nil) .nil)) (.node (o109 P) (.node (o173 P) (.node (o301 P) .nil .nil) (.node (o429 P) .nil .nil)) (.node (o237 P) (.node (o365 P) .nil .nil) .nil))) (.node (o61 P) (.node (o93 P) (.node (o157 P) (.node (o285 P) .nil .nil) (.node (o413 P) .nil .nil)) (.node (o221 P) (.node (o349 P) .nil .nil) .nil)) (.node (o125 P) (.node (o189 P) (.node (o317 P) .nil .nil) (.node (o445 P) .nil .nil)) (.node (o253 P) (.node (o381 P) .nil .nil) .nil))))))) (.node (o2 P) (.node (o4 P) (.node (o8 P) (.node (o16 P) (.node (o32 P) (.node (o64 P) (.node (o128 P) (.node (o256 P) .nil .nil) (.node (o384 P) .nil .nil)) (.node (o192 P) (.node (o320 P) .nil .nil) (.node (o448 P) .nil .nil))) (.node (o96 P) (.node (o160 P) (.node (o288 P) .nil .nil) (.node (o416 P) .nil .nil)) (.node (o224 P) (.node (o352 P) .nil .nil) .nil))) (.node (o48 P) (.node (o80 P) (.node (o144 P) (.node (o272 P) .nil .nil) (.node (o400 P) .nil .nil)) (.node (o208 P) (.node (o336 P) .nil .nil) .nil)) (.node (o112 P) (.node (o176 P) (.node (o304 P) .nil .nil) (.node (o432 P) .nil .nil)) (.node (o240 P) (.node (o368 P) .nil .nil) .nil)))) (.node (o24 P) (.node (o40 P) (.node (o72 P) (.node (o136 P) (.node (o264 P) .nil .nil) (.node (o392 P) .nil .nil)) (.node (o200 P) (.node (o328 P) .nil .nil) .nil)) (.node (o104 P) (.node (o168 P) (.node (o296 P) .nil .nil) (.node (o424 P) .nil .nil)) (.node (o232 P) (.node (o360 P) .nil .nil) .nil))) (.node (o56 P) (.node (o88 P) (.node (o152 P) (.node (o280 P) .nil .nil) (.node (o408 P) .nil .nil)) (.node (o216 P) (.node (o344 P) .nil .nil) .nil)) (.node (o120 P) (.node (o184 P) (.node (o312 P) .nil .nil) (.node (o440 P) .nil .nil)) (.node (o248 P) (.node (o376 P) .nil .nil) .nil))))) (.node (o12 P) (.node (o20 P) (.node (o36 P) (.node (o68 P) (.node (o132 P) (.node (o260 P) .nil .nil) (.node (o388 P) .nil .nil)) (.node (o196 P) (.node (o324 P) .nil .nil) (.node (o452 P) .nil .nil))) (.node (o100 P) (.node (o164 P) (.node (o292 P) .nil .nil) (.node (o420 P) .nil .nil)) (.node (o228 P) (.node (o356 P) .nil .nil) .nil))) (.node (o52 P) (.node (o84 P) (.node (o148 P) (.node (o276 P) .nil .nil) (.node (o404 P) .nil .nil)) (.node (o212 P) (.node (o340 P) .nil .nil) .nil)) (.node (o116 P) (.node (o180 P) (.node (o308 P) .nil .nil) (.node (o436 P) .nil .nil)) (.node (o244 P) (.node (o372 P) .nil .nil) .nil)))) (.node (o28 P) (.node (o44 P) (.node (o76 P) (.node (o140 P) (.node (o268 P) .nil .nil) (.node (o396 P) .nil .nil)) (.node (o204 P) (.node (o332 P) .nil .nil) .nil)) (.node (o108 P) (.node (o172 P) (.node (o300 P) .nil .nil) (.node (o428 P) .nil .nil)) (.node (o236 P) (.node (o364 P) .nil .nil) .nil))) (.node (o60 P) (.node (o92 P) (.node (o156 P) (.node (o284 P) .nil .nil) (.node (o412 P) .nil .nil)) (.node (o220 P) (.node (o348 P) .nil .nil) .nil)) (.node (o124 P) (.node (o188 P) (.node (o316 P) .nil .nil) (.node (o444 P) .nil .nil)) (.node (o252 P) (.node (o380 P) .nil .nil) .nil)))))) (.node (o6 P) (.node (o10 P) (.node (o18 P) (.node (o34 P) (.node (o66 P) (.node (o130 P) (.node (o258 P) .nil .nil) (.node (o386 P) .nil .nil)) (.node (o194 P) (.node (o322 P) .nil .nil) (.node (o450 P) .nil .nil))) (.node (o98 P) (.node (o162 P) (.node (o290 P) .nil .nil) (.node (o418 P) .nil .nil)) (.node (o226 P) (.node (o354 P) .nil .nil) .nil))) (.node (o50 P) (.node (o82 P) (.node (o146 P) (.node (o274 P) .nil .nil) (.node (o402 P) .nil .nil)) (.node (o210 P) (.node (o338 P) .nil .nil) .nil)) (.node (o114 P) (.node (o178 P) (.node (o306 P) .nil .nil) (.node (o434 P) .nil .nil)) (.node (o242 P) (.node (o370 P) .nil .nil) .nil)))) (.node (o26 P) (.node (o42 P) (.node (o74 P) (.node (o138 P) (.node (o266 P) .nil .nil) (.node (o394 P) .nil .nil)) (.node (o202 P) (.node (o330 P) .nil .nil) .nil)) (.node (o106 P) (.node (o170 P) (.node (o298 P) .nil .nil) (.node (o426 P) .nil .nil)) (.node (o234 P) (.node (o362 P) .nil .nil) .nil))) (.node (o58 P) (.node (o90 P) (.node (o154 P) (.node (o282 P) .nil .nil) (.node (o410 P) .nil .nil)) (.node (o218 P) (.node (o346 P) .nil .nil) .nil)) (.node (o122 P) (.node (o186 P) (.node (o314 P) .nil .nil) (.node (o442 P) .nil .nil)) (.node (o250 P) (.node (o378 P) .nil .nil) .nil))))) (.node (o14 P) (.node (o22 P) (.node (o38 P) (.node (o70 P) (.node (o134 P) (.node (o262 P) .nil .nil) (.node (o390 P) .nil .nil)) (.node (o198 P) (.node (o326 P) .nil .nil) .nil)) (.node (o102 P) (.node (o166 P) (.node (o294 P) .nil .nil) (.node (o422 P) .nil .nil)) (.node (o230 P) (.node (o358 P) .nil .nil) .nil))) (.node (o54 P) (.node (o86 P) (.node (o150 P) (.node (o278 P) .nil .nil) (.node (o406 P) .nil .nil)) (.node (o214 P) (.node (o342 P) .nil .nil) .nil)) (.node (o118 P) (.node (o182 P) (.node (o310 P) .nil .nil) (.node (o438 P) .nil .nil)) (.node (o246 P) (.node (o374 P) .nil .nil) .nil)))) (.node (o30 P) (.node (o46 P) (.node (o78 P) (.node (o142 P) (.node (o270 P) .nil .nil) (.node (o398 P) .nil .nil)) (.node (o206 P) (.node (o334 P) .nil .nil) .nil)) (.node (o110 P) (.node (o174 P) (.node (o302 P) .nil .nil) (.node (o430 P) .nil .nil)) (.node (o238 P) (.node (o366 P) .nil .nil) .nil))) (.node (o62 P) (.node (o94 P) (.node (o158 P) (.node (o286 P) .nil .nil) (.node (o414 P) .nil .nil)) (.node (o222 P) (.node (o350 P) .nil .nil) .nil)) (.node (o126 P) (.node (o190 P) (.node (o318 P) .nil .nil) (.node (o446 P) .nil .nil)) (.node (o254 P) (.node (o382 P) .nil .nil) .nil))))))))
noncomputable def sS8 (w : World) (os : OsState) : SharedT := ⟨tr8 w.params, 454, {}, #[], ⟨0, 0, 0, 0⟩, 819, os⟩
set_option maxRecDepth 100000 in
set_option maxHeartbeats 0 in
theorem piece0 (w : World) (os : OsState) : segRunT treeTable pw w 11 tann 1 28 (sS0 w os) (piecesOf (sl 0 3) tEnv tc ⟨0, 0, 0, 0⟩ [topFrame tq]) = some (.next, sS1 w os, tc, ⟨3, 0, 3, 13⟩) := by
  kernel_rfl
set_option maxRecDepth 100000 in
set_option maxHeartbeats 0 in
theorem piece1 (w : World) (os : OsState) : segRunT treeTable pw w 11 tann 1 249 (sS1 w os) (piecesOf (sl 3 4) tEnv tc ⟨3, 0, 3, 13⟩ [topFrame tq]) = some (.next, sS2 w os, tc, ⟨4, 0, 9, 24⟩) := by
  kernel_rfl
set_option maxRecDepth 100000 in
set_option maxHeartbeats 0 in
theorem piece2 (w : World) (os : OsState) : segRunT treeTable pw w 11 tann 1 318 (sS2 w os) (piecesOf (sl 4 15) tEnv tc ⟨4, 0, 9, 24⟩ [topFrame tq]) = some (.next, sS3 w os, tc, ⟨70, 0, 70, 8⟩) := by
  kernel_rfl
set_option maxRecDepth 100000 in
set_option maxHeartbeats 0 in
theorem piece3 (w : World) (os : OsState) : segRunT treeTable pw w 11 tann 1 411 (sS3 w os) (piecesOf (sl 15 30) tEnv tc ⟨70, 0, 70, 8⟩ [topFrame tq]) = some (.next, sS4 w os, tc, ⟨119, 0, 120, 68⟩) := by
  kernel_rfl
set_option maxRecDepth 100000 in
set_option maxHeartbeats 0 in
theorem piece4 (w : World) (os : OsState) : segRunT treeTable pw w 11 tann 1 414 (sS4 w os) (piecesOf (sl 30 45) tEnv tc ⟨119, 0, 120, 68⟩ [topFrame tq]) = some (.next, sS5 w os, tc, ⟨191, 0, 191, 5⟩) := by
  kernel_rfl
set_option maxRecDepth 100000 in
set_option maxHeartbeats 0 in
theorem piece5 (w : World) (os : OsState) : segRunT treeTable pw w 11 tann 1 354 (sS5 w os) (piecesOf (sl 45 59) tEnv tc ⟨191, 0, 191, 5⟩ [topFrame tq]) = some (.next, sS6 w os, tc, ⟨280, 0, 280, 8⟩) := by
  kernel_rfl
set_option maxRecDepth 100000 in
set_option maxHeartbeats 0 in
theorem piece6 (w : World) (os : OsState) : segRunT treeTable pw w 11 tann 1 394 (sS6 w os) (piecesOf (sl 59 60) tEnv tc ⟨280, 0, 280, 8⟩ [topFrame tq]) = some (.next, sS7 w os, tc, ⟨281, 0, 309, 42⟩) := by
  kernel_rfl
set_option maxRecDepth 100000 in
set_option maxHeartbeats 0 in
theorem piece7 (w : World) (os : OsState) : segRunT treeTable pw w 11 tann 1 248 (sS7 w os) (piecesOf (sl 60 69) tEnv tc ⟨281, 0, 309, 42⟩ [topFrame tq]) = some (.next, sS8 w os, tc, ⟨351, 0, 369, 80⟩) := by
  kernel_rfl
set_option maxRecDepth 100000 in
set_option maxHeartbeats 0 in
theorem pre_ (w : World) (os : OsState) : topGo treeTable pw w 11 tann 12 ⟨boot_heap w.params, Array.mk [], boot_drawn, boot_toks, os⟩ (topStub pw) = some ((sS0 w os).abs, ⟨denote treeTable tc, tc, ⟨0, 0, 0, 0⟩, [topFrame tq]⟩) := by
  kernel_rfl
set_option maxRecDepth 100000 in
theorem block_ (w : World) (os : OsState) : segRun treeTable pw w 11 tann 1 1 (sS0 w os).abs (blockOf (behindTheImports pw) tEnv tc ⟨0, 0, 0, 0⟩ [topFrame tq]) = some (.next, (sS0 w os).abs, tc, ⟨0, 0, 0, 0⟩) := by
  kernel_rfl
noncomputable def H1 (P : Params) : Heap := ⟨(base P).toArray, {}⟩
set_option maxRecDepth 100000 in
theorem abs1 (w : World) (os : OsState) : (sS8 w os).abs = ⟨H1 w.params, #[], ⟨0, 0, 0, 0⟩, 819, os⟩ := by
  kernel_rfl
theorem fin_ (w : World) (s : Shared) : topRun treeTable pw w 11 tann 2 s ⟨doneF .next, tc, ⟨351, 0, 369, 80⟩, [topFrame tq]⟩ = some s := by
  kernel_rfl
theorem slices : behindTheImports pw = sl 0 3 ++ (sl 3 4 ++ (sl 4 15 ++ (sl 15 30 ++ (sl 30 45 ++ (sl 45 59 ++ (sl 59 60 ++ (sl 60 69 ++ []))))))) := by
  kernel_rfl
end Mine
end

section
open PySem PySem.W PyProof.Rows
namespace Mine
open PySem.Spec PySem.Calls
set_option maxRecDepth 100000
theorem open_1 : ∀ w : World, (fencedOpening treeTable pw w 4942).map (fun s => (s.heap, s.gens, s.drawn, s.toks)) = some (boot_heap w.params, Array.mk [], boot_drawn, boot_toks) :=
  boot_open (p := pw) (N := 4942) (by kernel_rfl) (by decide) (fun s => by kernel_rfl)
theorem run_1 (w : World) (os : OsState) : ∃ M, Nat.ble M 4942 = true ∧ topRun treeTable pw w 11 tann M ⟨boot_heap w.params, Array.mk [], boot_drawn, boot_toks, os⟩ (topStub pw) = some ⟨H1 w.params, #[], ⟨0, 0, 0, 0⟩, 819, os⟩ := by
  have k8 := piece_nil (env := tEnv) (fin_ w (sS8 w os).abs)
  have k7 := piece_app (segRun_of (piece7 w os)) k8
  have k6 := piece_app (segRun_of (piece6 w os)) k7
  have k5 := piece_app (segRun_of (piece5 w os)) k6
  have k4 := piece_app (segRun_of (piece4 w os)) k5
  have k3 := piece_app (segRun_of (piece3 w os)) k4
  have k2 := piece_app (segRun_of (piece2 w os)) k3
  have k1 := piece_app (segRun_of (piece1 w os)) k2
  have k0 := piece_app (segRun_of (piece0 w os)) k1
  rw [← slices] at k0
  have kb := piece_block (block_ w os) k0
  have kg := go_top (pre_ w os) kb
  rw [abs1] at kg
  exact ⟨_, by decide, kg⟩
theorem run_ (w : World) (os : OsState) : topRun treeTable pw w 11 tann 4942 ⟨boot_heap w.params, Array.mk [], boot_drawn, boot_toks, os⟩ (topStub pw) = some ⟨H1 w.params, #[], ⟨0, 0, 0, 0⟩, 819, os⟩ := by
  obtain ⟨M, h, k⟩ := run_1 w os
  have := topRun_mono (4942 - M) _ _ _ _ k
  rwa [show M + (4942 - M) = 4942 by have := Nat.le_of_ble_eq_true h; omega] at this
theorem size_ (w : World) : ((boot_heap w.params).isNs mainGlobals && (Array.mk [] : Array GenState).size == 0, (boot_heap w.params).objs.size, (boot_heap w.params).nsMap mainGlobals "__annotations__") = (true, 11, tann) := by
  kernel_rfl
noncomputable abbrev Xt1 : Shared → Bool := fun s => xlAt V [] s && recOk (RowW.records PySem.Challenge.rw_xm0021_01.row.toRowW) s
set_option maxHeartbeats 0 in
theorem look1 (w : World) (os : OsState) : (staticsOk (importedModules pw.main.body) (boot_heap w.params) (H1 w.params) && namesBound pw (H1 w.params) && gensDone ⟨H1 w.params, #[], ⟨0, 0, 0, 0⟩, 819, os⟩ && laidKept (boot_heap w.params) (H1 w.params)) = true := by
  kernel_rfl
set_option maxHeartbeats 0 in
theorem look2 (w : World) (os : OsState) : openSeen V lo (importedModules pw.main.body) Xt1 true ⟨H1 w.params, #[], ⟨0, 0, 0, 0⟩, 819, os⟩ = openGood V lo := by
  kernel_rfl
theorem look3 (w : World) (os : OsState) : Hook.obs H ⟨H1 w.params, #[], ⟨0, 0, 0, 0⟩, 819, os⟩ = Hook.val H w := by
  kernel_rfl
theorem left : LeftO pw V lo Xt1 (Hook.obs H) (Hook.val H) 4942 :=
  LeftO.of_pieces (H₁ := H1) open_1 size_ run_ (by decide) fun w => funext fun os => Prod.ext (look1 w os) (Prod.ext (look2 w os) (look3 w os))
end Mine
end

section
open PySem PySem.W PyProof.Rows
namespace Mine
open PySem.Spec PySem.Calls
set_option maxRecDepth 100000
set_option maxHeartbeats 8000000
theorem look_ : OpenLaw.wellSaid PySem.Challenge.rw_xm0021_01 = true := by
  unfold OpenLaw.wellSaid OpenRow.wellSaid OpenRow.partSaid looksOpen
  repeat' with_reducible refine look_both ?_ ?_
  all_goals decide +kernel
theorem hw_ : RowW.promised PySem.Challenge.rw_xm0021_01.row.toRowW := by
  w_witness2
end Mine
namespace Mine
theorem hd (call : ∀ d kwd, defOf V PySem.Challenge.rw_xm0021_01.row.name = some (d, kwd) → WalkO V lo (XL V []) (Hook.says H) PySem.Challenge.rw_xm0021_01.row.toRowW d kwd fun f vs => PySem.call f vs) : PySem.Challenge.rw_xm0021_01.Holds := by
  refine holds_law look_ fun said => ?_
  refine holds_open (q := V) (loose := lo) (Xt := Xt1) (XP := XL V []) (Yf := Hook.obs H) (Ya := Hook.val H) (YP := Hook.says H) (N := 4942) left (Hook.of H) (Hook.keeps H) (fun s e => xl_of s (Bool.and_eq_true_iff.mp e).1) XL.keeps rfl rfl rfl (fun s e => recFacts_of (Bool.and_eq_true_iff.mp e).2) rfl said (look_both (look_both (by decide +kernel) (by decide +kernel)) (look_both (by decide +kernel) (by decide +kernel))) ⟨rfl, rfl, rfl, rfl, rfl, by decide +kernel⟩ hw_ (call _ _ rfl)
end Mine
end

section
open PySem PySem.W PyProof.Rows
namespace Mine
open PySem.Spec PySem.Calls
noncomputable abbrev lw : List Str := [Str.ofString "BasicError", Str.ofString "ONE", Str.ofString "LOGIC", Str.ofString "COMPARISONS", Str.ofString "LEAVES"]
theorem lw_ : looseW V lo = lw := by kernel_rfl
theorem allLt_app {a : Nat} : ∀ {l r : List (Addr × Obj)}, AllLt a (l ++ r) → AllLt a l
  | [], _, _ => trivial
  | _ :: _, _, h => ⟨h.1, allLt_app h.2⟩
theorem ab0 {a : Nat} {l r : List (Addr × Obj)} (h : ∀ p ∈ l ++ r, p.1 < a) : AllLt a l := allLt_of fun p hp => h p (List.mem_append.mpr (.inl hp))
theorem ab1 {a : Nat} {l r : List (Addr × Obj)} (h : AllLt a (l ++ r)) : AllLt a l := allLt_app h
theorem ord2 {a : Addr} {o : Obj} {news tl : List (Addr × Obj)} (h : AllLt a news) (k : ∀ q ∈ news, ∀ p ∈ tl, q.1 < p.1) : ∀ q ∈ news, ∀ p ∈ (a, o) :: tl, q.1 < p.1 := by
  intro q hq p hp
  rcases List.mem_cons.mp hp with rfl | hp
  · exact ktn_ltOf h q hq
  · exact k q hq p hp
theorem newsSub {h₀ h : Heap} {L : Addr} {l l' : List (Addr × Obj)} (N : News h₀ L h l) (hs : ∀ p ∈ l', p ∈ l) : News h₀ L h l' := fun p hp => N p (hs p hp)
theorem tlN {h₀ h : Heap} {L : Addr} {news tl : List (Addr × Obj)} (pre : List (Addr × Obj)) (N : News h₀ L h (pre ++ (news ++ tl))) : News h₀ L h (news ++ (pre ++ tl)) :=
  newsSub N fun p hp => by
    simp only [List.mem_append] at hp ⊢
    rcases hp with h | h | h
    · exact .inr (.inl h)
    · exact .inl h
    · exact .inr (.inr h)
theorem subPA {l a b pre : List (Addr × Obj)} : ∀ p ∈ l ++ a, p ∈ l ++ (pre ++ (a ++ b)) := fun p hp => by
  simp only [List.mem_append] at hp ⊢
  rcases hp with h | h
  · exact .inl h
  · exact .inr (.inr (.inl h))
theorem subPB {l a b pre : List (Addr × Obj)} : ∀ p ∈ l ++ a ++ b, p ∈ l ++ (pre ++ (a ++ b)) := fun p hp => by
  simp only [List.mem_append] at hp ⊢
  rcases hp with (h | h) | h
  · exact .inl h
  · exact .inr (.inr (.inl h))
  · exact .inr (.inr (.inr h))
end Mine
end

section
open PySem PySem.W PyProof.Rows
namespace Mine
open PySem.Spec PySem.Calls
/-- what a def promises: of the ledger and the arguments; of the ledger ahead, the ledger behind, the result -/
structure Con (D : Type) where
  Rel : List (Addr × Obj) → List Value → D → Prop
  size : D → Nat
  Out : List (Addr × Obj) → List (Addr × Obj) → Value → D → Prop
noncomputable def Keeps (prog : Program) (w : World) (K : Frag) (p : Program) (loose : List Str) (mean : ExcName → Option Value) (mg mb : Str → Option Value) (f : Addr) {D : Type} (c : Con D) (d : D) : Prop :=
  ∀ (dp un : Nat) (gd : Option (List Code)) (cn : Str) (cs : Scope) (a : Addr) (ccd : Value) (cl : List (Str × Addr)) (outer : List Env) (A₀ : Around) (base h₀ : Heap) (L : Addr) (m : Str → Option Value) (news : List (Addr × Obj)) (s : Shared) (vs : List Value)
    (Q E : Value → Shared → Prop),
    Below A₀ base outer h₀ → Fr h₀ L s.heap m → K.In h₀ → News h₀ L s.heap news → Top p loose mean mg mb h₀ → cs.kind = .function → c.Rel news vs d → dp + c.size d < recursionLimit → un + 8 * c.size d < cLine →
    (∀ r news' h' tk', Fr h₀ L h' m → News h₀ L h' news' → c.Out news news' r d → Q r { s with heap := h', toks := tk' }) →
    wpAny (model prog w) (ktrTop dp un gd cn cs L a ccd cl outer) (call (.ref f) vs) Q E s
section
variable {D : Type} {prog : Program} {w : World} {K : Frag} {p : Program} {loose : List Str} {mean : ExcName → Option Value} {mg mb : Str → Option Value} {f : Addr} {c : Con D}
theorem keeps_of (step : ∀ d, (∀ d', c.size d' < c.size d → Keeps prog w K p loose mean mg mb f c d') → Keeps prog w K p loose mean mg mb f c d) : ∀ d, Keeps prog w K p loose mean mg mb f c d := by
  have all : ∀ n, ∀ d, c.size d < n → Keeps prog w K p loose mean mg mb f c d := by
    intro n
    induction n with
    | zero => intro d h; exact absurd h (Nat.not_lt_zero _)
    | succ n ih => exact fun d h => step d fun d' h' => ih d' (Nat.lt_of_lt_of_le h' (Nat.le_of_lt_succ h))
  exact fun d => all _ d (Nat.lt_succ_self _)
theorem keeps_use {d : D} {dp un : Nat} {gd : Option (List Code)} {cn : Str} {cs : Scope} {a : Addr} {ccd : Value} {cl : List (Str × Addr)} {outer : List Env} {A₀ : Around} {base h₀ : Heap} {L : Addr} {m : Str → Option Value} {news : List (Addr × Obj)} {s : Shared} {vs : List Value}
    {Q E : Value → Shared → Prop} (B : Below A₀ base outer h₀) (F : Fr h₀ L s.heap m) (X : K.In h₀) (N : News h₀ L s.heap news) (T : Top p loose mean mg mb h₀) (hk : cs.kind = .function) (R : c.Rel news vs d) (C : Keeps prog w K p loose mean mg mb f c d)
    (hd : dp + c.size d < recursionLimit) (hu : un + 8 * c.size d < cLine)
    (ret : ∀ r news' h' tk', Fr h₀ L h' m → News h₀ L h' news' → c.Out news news' r d → Q r { s with heap := h', toks := tk' }) :
    wpAny (model prog w) (ktrTop dp un gd cn cs L a ccd cl outer) (call (.ref f) vs) Q E s := C _ _ _ _ _ _ _ _ _ _ _ _ _ _ _ _ _ _ _ B F X N T hk R hd hu ret
end
/-- the ledger off an address -/
noncomputable def offA (I : Addr) (l : List (Addr × Obj)) : List (Addr × Obj) := l.filter fun p => p.1 != I
theorem offA_ne {I : Addr} {l : List (Addr × Obj)} : ∀ p ∈ offA I l, p.1 ≠ I := fun p hp => by
  have := (List.mem_filter.mp hp).2
  simpa using this
theorem offA_sub {I : Addr} {l : List (Addr × Obj)} : ∀ p ∈ offA I l, p ∈ l := fun _ hp => (List.mem_filter.mp hp).1
theorem mem_offA {I : Addr} {l : List (Addr × Obj)} {p : Addr × Obj} (h : p ∈ l) (k : p.1 ≠ I) : p ∈ offA I l := List.mem_filter.mpr ⟨h, by simpa using k⟩
theorem news_one {h₀ h : Heap} {L a : Addr} {l : List (Addr × Obj)} {o o' : Obj} (N : News h₀ L h l) (h1 : (a, o) ∈ l) (h2 : (a, o') ∈ l) : o = o' := by
  have e1 := (N _ h1).1
  have e2 := (N _ h2).1
  rw [e1] at e2
  exact Option.some.inj e2
theorem news_ne {h₀ h : Heap} {L a b : Addr} {l : List (Addr × Obj)} {o o' : Obj} (N : News h₀ L h l) (h1 : (a, o) ∈ l) (h2 : (b, o') ∈ l) (hc : o.cls ≠ o'.cls) : a ≠ b := fun e => by
  subst e
  exact hc (congrArg Obj.cls (news_one N h1 h2))
theorem unr_end {h₀ : Heap} {L I : Addr} {it : Obj} {rest : (Str → Option Value) → List (Addr × Obj) → Prop} {s₁ : Shared} {h' : Heap} {tk : Nat} {m' : Str → Option Value} {nx : List (Addr × Obj)} (F : Fr h₀ L h' m') (N : News h₀ L h' nx) (hI : (I, it) ∈ nx) (r : rest m' (offA I nx)) :
    UnrEnd h₀ L s₁ I it rest { s₁ with heap := h', toks := tk } :=
  UnrEnd.intro F N (offA I nx) (fun p hp => by
    rcases List.mem_cons.mp hp with rfl | hp
    · exact hI
    · exact offA_sub p hp) offA_ne r
section
variable {prog : Program} {w : World} {A : Around} {E : Value → Shared → Prop} {s : Shared} {env : Env} {h₀ : Heap} {x : Str} {body : List Stmt} {Q : Flow → Shared → Prop}
theorem iter_L {ax : Addr} {vs : List Value} {n : Nat} {m₀ : Str → Option Value} {news : List (Addr × Obj)}
    (hh : A.handled = none) (F : Fr h₀ env.locals s.heap m₀) (N : News h₀ env.locals s.heap news) (hm : (ax, listOf vs.toArray n) ∈ news)
    (rest₀ : ∀ I : Addr, (∀ p ∈ news, p.1 < I) → ListRest prog w A E h₀ env x body Q s I (ax, listOf vs.toArray n) vs m₀ news) :
    wpAny (model prog w) A (pyIter (.ref ax)) (fun it s₂ => LoopAtV prog w A h₀ env x body Q E it s₂) E s := iter_listUnr hh F N hm rfl rfl rest₀
theorem listRest_ind {I : Addr} {lp : Addr × Obj} (J : List Value → (Str → Option Value) → List (Addr × Obj) → Prop)
    (done : ∀ m news h tk, J [] m news → Fr h₀ env.locals h m → News h₀ env.locals h news → Q .next { s with heap := h, toks := tk })
    (turn : ∀ v r m news it h tk, J (v :: r) m news → it.cls = .type "list_iterator" → Fr h₀ env.locals h (fun y => if y = x then some v else m y) → News h₀ env.locals h ((I, it) :: news) →
      wpAny (model prog w) A (execs body env) (UnrPost h₀ env.locals { s with heap := h, toks := tk } I it (fun m' n' => lp ∈ n' ∧ J r m' n') Q) E { s with heap := h, toks := tk }) :
    ∀ vs m news, J vs m news → ListRest prog w A E h₀ env x body Q s I lp vs m news
  | [], m, news, hJ => ListRest.zero fun h tk F N => done m news h tk hJ F N
  | v :: r, m, news, hJ => ListRest.succ fun it h tk hc F N => wpAny_mono (turn v r m news it h tk hJ hc F N) (fun f s₂ p => by
      cases f with
      | ret v => exact p
      | brk => exact p
      | next =>
        obtain ⟨h', tk', m', n', e, F', N', ho, hl, hj⟩ := p
        exact ⟨h', tk', m', n', e, F', N', ho, hl, listRest_ind J done turn r m' n' hj⟩
      | cont =>
        obtain ⟨h', tk', m', n', e, F', N', ho, hl, hj⟩ := p
        exact ⟨h', tk', m', n', e, F', N', ho, hl, listRest_ind J done turn r m' n' hj⟩) fun _ _ e => e
end
theorem in1 {q0 : Addr × Obj} {l : List (Addr × Obj)} : ∀ p ∈ l, p ∈ q0 :: l := fun _ hp => .tail _ hp
theorem sub1 {h₀ h : Heap} {L : Addr} {q0 : Addr × Obj} {l : List (Addr × Obj)} (_N : News h₀ L h (q0 :: l)) : ∀ p ∈ l, p ∈ q0 :: l := in1
theorem in2 {q0 q1 : Addr × Obj} {l : List (Addr × Obj)} : ∀ p ∈ l, p ∈ q0 :: q1 :: l := fun _ hp => .tail _ (.tail _ hp)
theorem sub2 {h₀ h : Heap} {L : Addr} {q0 q1 : Addr × Obj} {l : List (Addr × Obj)} (_N : News h₀ L h (q0 :: q1 :: l)) : ∀ p ∈ l, p ∈ q0 :: q1 :: l := in2
theorem in3 {q0 q1 q2 : Addr × Obj} {l : List (Addr × Obj)} : ∀ p ∈ l, p ∈ q0 :: q1 :: q2 :: l := fun _ hp => .tail _ (.tail _ (.tail _ hp))
theorem sub3 {h₀ h : Heap} {L : Addr} {q0 q1 q2 : Addr × Obj} {l : List (Addr × Obj)} (_N : News h₀ L h (q0 :: q1 :: q2 :: l)) : ∀ p ∈ l, p ∈ q0 :: q1 :: q2 :: l := in3
theorem in4 {q0 q1 q2 q3 : Addr × Obj} {l : List (Addr × Obj)} : ∀ p ∈ l, p ∈ q0 :: q1 :: q2 :: q3 :: l := fun _ hp => .tail _ (.tail _ (.tail _ (.tail _ hp)))
theorem sub4 {h₀ h : Heap} {L : Addr} {q0 q1 q2 q3 : Addr × Obj} {l : List (Addr × Obj)} (_N : News h₀ L h (q0 :: q1 :: q2 :: q3 :: l)) : ∀ p ∈ l, p ∈ q0 :: q1 :: q2 :: q3 :: l := in4
theorem in5 {q0 q1 q2 q3 q4 : Addr × Obj} {l : List (Addr × Obj)} : ∀ p ∈ l, p ∈ q0 :: q1 :: q2 :: q3 :: q4 :: l := fun _ hp => .tail _ (.tail _ (.tail _ (.tail _ (.tail _ hp))))
theorem sub5 {h₀ h : Heap} {L : Addr} {q0 q1 q2 q3 q4 : Addr × Obj} {l : List (Addr × Obj)} (_N : News h₀ L h (q0 :: q1 :: q2 :: q3 :: q4 :: l)) : ∀ p ∈ l, p ∈ q0 :: q1 :: q2 :: q3 :: q4 :: l := in5
theorem in6 {q0 q1 q2 q3 q4 q5 : Addr × Obj} {l : List (Addr × Obj)} : ∀ p ∈ l, p ∈ q0 :: q1 :: q2 :: q3 :: q4 :: q5 :: l := fun _ hp => .tail _ (.tail _ (.tail _ (.tail _ (.tail _ (.tail _ hp)))))
theorem sub6 {h₀ h : Heap} {L : Addr} {q0 q1 q2 q3 q4 q5 : Addr × Obj} {l : List (Addr × Obj)} (_N : News h₀ L h (q0 :: q1 :: q2 :: q3 :: q4 :: q5 :: l)) : ∀ p ∈ l, p ∈ q0 :: q1 :: q2 :: q3 :: q4 :: q5 :: l := in6
theorem in7 {q0 q1 q2 q3 q4 q5 q6 : Addr × Obj} {l : List (Addr × Obj)} : ∀ p ∈ l, p ∈ q0 :: q1 :: q2 :: q3 :: q4 :: q5 :: q6 :: l := fun _ hp => .tail _ (.tail _ (.tail _ (.tail _ (.tail _ (.tail _ (.tail _ hp))))))
theorem sub7 {h₀ h : Heap} {L : Addr} {q0 q1 q2 q3 q4 q5 q6 : Addr × Obj} {l : List (Addr × Obj)} (_N : News h₀ L h (q0 :: q1 :: q2 :: q3 :: q4 :: q5 :: q6 :: l)) : ∀ p ∈ l, p ∈ q0 :: q1 :: q2 :: q3 :: q4 :: q5 :: q6 :: l := in7
theorem in8 {q0 q1 q2 q3 q4 q5 q6 q7 : Addr × Obj} {l : List (Addr × Obj)} : ∀ p ∈ l, p ∈ q0 :: q1 :: q2 :: q3 :: q4 :: q5 :: q6 :: q7 :: l := fun _ hp => .tail _ (.tail _ (.tail _ (.tail _ (.tail _ (.tail _ (.tail _ (.tail _ hp)))))))
theorem sub8 {h₀ h : Heap} {L : Addr} {q0 q1 q2 q3 q4 q5 q6 q7 : Addr × Obj} {l : List (Addr × Obj)} (_N : News h₀ L h (q0 :: q1 :: q2 :: q3 :: q4 :: q5 :: q6 :: q7 :: l)) : ∀ p ∈ l, p ∈ q0 :: q1 :: q2 :: q3 :: q4 :: q5 :: q6 :: q7 :: l := in8
theorem in9 {q0 q1 q2 q3 q4 q5 q6 q7 q8 : Addr × Obj} {l : List (Addr × Obj)} : ∀ p ∈ l, p ∈ q0 :: q1 :: q2 :: q3 :: q4 :: q5 :: q6 :: q7 :: q8 :: l := fun _ hp => .tail _ (.tail _ (.tail _ (.tail _ (.tail _ (.tail _ (.tail _ (.tail _ (.tail _ hp))))))))
theorem sub9 {h₀ h : Heap} {L : Addr} {q0 q1 q2 q3 q4 q5 q6 q7 q8 : Addr × Obj} {l : List (Addr × Obj)} (_N : News h₀ L h (q0 :: q1 :: q2 :: q3 :: q4 :: q5 :: q6 :: q7 :: q8 :: l)) : ∀ p ∈ l, p ∈ q0 :: q1 :: q2 :: q3 :: q4 :: q5 :: q6 :: q7 :: q8 :: l := in9
theorem in10 {q0 q1 q2 q3 q4 q5 q6 q7 q8 q9 : Addr × Obj} {l : List (Addr × Obj)} : ∀ p ∈ l, p ∈ q0 :: q1 :: q2 :: q3 :: q4 :: q5 :: q6 :: q7 :: q8 :: q9 :: l := fun _ hp => .tail _ (.tail _ (.tail _ (.tail _ (.tail _ (.tail _ (.tail _ (.tail _ (.tail _ (.tail _ hp)))))))))
theorem sub10 {h₀ h : Heap} {L : Addr} {q0 q1 q2 q3 q4 q5 q6 q7 q8 q9 : Addr × Obj} {l : List (Addr × Obj)} (_N : News h₀ L h (q0 :: q1 :: q2 :: q3 :: q4 :: q5 :: q6 :: q7 :: q8 :: q9 :: l)) : ∀ p ∈ l, p ∈ q0 :: q1 :: q2 :: q3 :: q4 :: q5 :: q6 :: q7 :: q8 :: q9 :: l := in10
theorem in11 {q0 q1 q2 q3 q4 q5 q6 q7 q8 q9 q10 : Addr × Obj} {l : List (Addr × Obj)} : ∀ p ∈ l, p ∈ q0 :: q1 :: q2 :: q3 :: q4 :: q5 :: q6 :: q7 :: q8 :: q9 :: q10 :: l := fun _ hp => .tail _ (.tail _ (.tail _ (.tail _ (.tail _ (.tail _ (.tail _ (.tail _ (.tail _ (.tail _ (.tail _ hp))))))))))
theorem sub11 {h₀ h : Heap} {L : Addr} {q0 q1 q2 q3 q4 q5 q6 q7 q8 q9 q10 : Addr × Obj} {l : List (Addr × Obj)} (_N : News h₀ L h (q0 :: q1 :: q2 :: q3 :: q4 :: q5 :: q6 :: q7 :: q8 :: q9 :: q10 :: l)) : ∀ p ∈ l, p ∈ q0 :: q1 :: q2 :: q3 :: q4 :: q5 :: q6 :: q7 :: q8 :: q9 :: q10 :: l := in11
theorem in12 {q0 q1 q2 q3 q4 q5 q6 q7 q8 q9 q10 q11 : Addr × Obj} {l : List (Addr × Obj)} : ∀ p ∈ l, p ∈ q0 :: q1 :: q2 :: q3 :: q4 :: q5 :: q6 :: q7 :: q8 :: q9 :: q10 :: q11 :: l := fun _ hp => .tail _ (.tail _ (.tail _ (.tail _ (.tail _ (.tail _ (.tail _ (.tail _ (.tail _ (.tail _ (.tail _ (.tail _ hp)))))))))))
theorem sub12 {h₀ h : Heap} {L : Addr} {q0 q1 q2 q3 q4 q5 q6 q7 q8 q9 q10 q11 : Addr × Obj} {l : List (Addr × Obj)} (_N : News h₀ L h (q0 :: q1 :: q2 :: q3 :: q4 :: q5 :: q6 :: q7 :: q8 :: q9 :: q10 :: q11 :: l)) : ∀ p ∈ l, p ∈ q0 :: q1 :: q2 :: q3 :: q4 :: q5 :: q6 :: q7 :: q8 :: q9 :: q10 :: q11 :: l := in12
theorem canon1 {m : Str → Option Value} {a : Str} {va : Value} (h1 : m a = some va) : m = fun y => if y = a then some va else m y := by
  funext y
  by_cases q1 : y = a
  · subst q1; simp [h1]
  · simp [q1]
theorem canon2 {m : Str → Option Value} {a b : Str} {va vb : Value} (h1 : m a = some va) (h2 : m b = some vb) : m = fun y => if y = a then some va else if y = b then some vb else m y := by
  funext y
  by_cases q1 : y = a
  · subst q1; simp [h1]
  · rw [if_neg q1]
    exact congrFun (canon1 h2) y
theorem canon3 {m : Str → Option Value} {a b c : Str} {va vb vc : Value} (h1 : m a = some va) (h2 : m b = some vb) (h3 : m c = some vc) : m = fun y => if y = a then some va else if y = b then some vb else if y = c then some vc else m y := by
  funext y
  by_cases q1 : y = a
  · subst q1; simp [h1]
  · rw [if_neg q1]
    exact congrFun (canon2 h2 h3) y
theorem canon4 {m : Str → Option Value} {a b c d : Str} {va vb vc vd : Value} (h1 : m a = some va) (h2 : m b = some vb) (h3 : m c = some vc) (h4 : m d = some vd) : m = fun y => if y = a then some va else if y = b then some vb else if y = c then some vc else if y = d then some vd else m y := by
  funext y
  by_cases q1 : y = a
  · subst q1; simp [h1]
  · rw [if_neg q1]
    exact congrFun (canon3 h2 h3 h4) y
end Mine
end

section
open PySem PySem.W PyProof.Rows
namespace Mine
open PySem.Spec PySem.Calls
theorem while_end {h₀ h' : Heap} {L : Addr} {s : Shared} {J : Nat → (Str → Option Value) → List (Addr × Obj) → Prop} {Q : Flow → Shared → Prop} {n n' tk : Nat} {m' : Str → Option Value} {nx : List (Addr × Obj)} (F : Fr h₀ L h' m') (N : News h₀ L h' nx) (hn : n' < n) (j : J n' m' nx) :
    WhileStep2 h₀ L s J Q n .next { s with heap := h', toks := tk } := ⟨h', tk, m', nx, n', rfl, F, N, hn, j⟩
/-- a goal that the walk leaves alone -/
noncomputable def Wait (p : Prop) : Prop := p
theorem wait {p : Prop} (h : Wait p) : p := h
section
variable {prog : Program} {w : World} {A : Around} {E : Value → Shared → Prop} {s : Shared} {h₀ : Heap} {L D b : Addr} {m : Str → Option Value} {news news' : List (Addr × Obj)} {n k : Nat} {p vs ws : List Value} {x y : Value} {Q : Value → Shared → Prop}
/-- the size of a list, said ahead of a «len» -/
noncomputable def LenIs (vs : List Value) (k : Int) : Prop := (vs.length : Int) = k ∧ k ≤ 16384
theorem len_L {vs : List Value} {k : Int} {c : Nat} (N : News h₀ L s.heap news) (hm : (D, listOf vs.toArray c) ∈ news) (hk : LenIs vs k) (h : Q (.int k (s.toks + 1)) { s with toks := s.toks + 1 + 1 }) :
    wpAny (model prog w) A (call (.builtin "len") [.ref D]) Q E s := kun_lenL (N.isList hm) (by rw [List.size_toArray]; exact hk.1) hk.2 h
theorem in_tupB {t : Addr} {items : Array Value} {ys : List Str} {x : Str} {u : Tok} {c : Bool} (ht : IsTup s.heap t items) (hi : StrsAre items.toList ys) (hb : ys.any (· == x) = c)
    (h : Q (.bool c) s) : wpAny (model prog w) A (compareOp .In (.str x u) (.ref t)) Q E s := in_tuple_strs ht hi (by rw [hb]; exact h)
theorem pop_L (F : Fr h₀ L s.heap m) (N : News h₀ L s.heap news) (U : Upd D (listOf (p ++ [y]).toArray n) (listOf p.toArray (n + 1)) news news') (hz : p.length + 1 ≤ sizeLine)
    (h : ∀ h', Fr h₀ L h' m → News h₀ L h' news' → Q y { s with heap := h' }) : wpAny (model prog w) A (call (.builtin "list.pop") [.ref D]) Q E s := by
  refine kl_pop F N (p := p) (y := y) ?_ U (by simpa using hz) h
  have e := kpa_last y p
  simpa using e
theorem append_L (F : Fr h₀ L s.heap m) (N : News h₀ L s.heap news) (U : Upd D (listOf vs.toArray n) (listOf (vs ++ [x]).toArray (n + 1)) news news') (hz : vs.length ≤ sizeLine)
    (h : ∀ h', Fr h₀ L h' m → News h₀ L h' news' → Q .none { s with heap := h' }) : wpAny (model prog w) A (call (.builtin "list.append") [.ref D, x]) Q E s := by
  have e : vs.toArray.push x = (vs ++ [x]).toArray := by simp
  exact append_K F N (by rw [e]; exact U) h (by rw [List.size_toArray]; exact hz)
theorem extend_L (F : Fr h₀ L s.heap m) (N : News h₀ L s.heap news) (hb : (b, listOf ws.toArray k) ∈ news) (hne : ws.length ≠ 0) (U : Upd D (listOf vs.toArray n) (listOf (vs ++ ws).toArray (n + 1)) news news') (hz : vs.length + ws.length ≤ sizeLine)
    (h : ∀ h', Fr h₀ L h' m → News h₀ L h' news' → Q .none { s with heap := h' }) : wpAny (model prog w) A (call (.builtin "list.extend") [.ref D, .ref b]) Q E s := by
  have q : ¬ vs.length + ws.length > sizeLine := Nat.not_lt.mpr hz
  refine kl_extend F N hb (l := vs ++ ws) (by simp) (by simpa using hne) U ?_ (by simpa using Nat.le_trans (Nat.le_add_right _ _) hz) (by simpa using Nat.le_succ_of_le hz) h
  simp only [List.size_toArray, Builtin.List.listTooLong, decide_eq_false q, Bool.and_false]
  exact Bool.false_ne_true
theorem reverse_L (F : Fr h₀ L s.heap m) (N : News h₀ L s.heap news) (U : Upd D (listOf vs.toArray n) (listOf vs.reverse.toArray n) news news') (hz : vs.length ≤ sizeLine)
    (h : ∀ h', Fr h₀ L h' m → News h₀ L h' news' → Q .none { s with heap := h' }) : wpAny (model prog w) A (call (.builtin "list.reverse") [.ref D]) Q E s :=
  kl_reverse F N (l := vs.reverse) (by simp) U (by simpa using hz) h
end
end Mine
end

section
open PySem PySem.W PyProof.Rows
namespace Mine
open PySem.Spec PySem.Calls
set_option maxRecDepth 100000
noncomputable def Nm (x : Str) : Prop := x = Str.ofString "A" ∨ x = Str.ofString "B" ∨ x = Str.ofString "C" ∨ x = Str.ofString "D" ∨ x = Str.ofString "E"
noncomputable def DictVals (w : World) (o : Obj) (env : Str → Int) : Prop := ∃ kvs, o.IsDictOf (PySem.strKind pw w) kvs ∧ ∀ x, Nm x → (∃ t, valueAt kvs x = some (.int (env x) t)) ∧ 1 ≤ env x ∧ env x ≤ 5
theorem DictVals.cls {w : World} {o : Obj} {env : Str → Int} (h : DictVals w o env) : o.cls = .type "dict" := by
  obtain ⟨_, ⟨_, _, hx, _⟩, _⟩ := h
  exact hx.1
section
variable {w : World} {A : Around} {E : Value → Shared → Prop} {s : Shared} {h₀ : Heap} {L d : Addr} {m : Str → Option Value} {news : List (Addr × Obj)} {o : Obj} {env : Str → Int} {x : Str} {t : Tok} {Q : Value → Shared → Prop}
theorem val_item {value slice : PySem.Expr} (N : News h₀ L s.heap news) (hm : (d, o) ∈ news) (hd : DictVals w o env) (hx : Nm x) (h : ∀ u, Q (.int (env x) u) { s with toks := s.toks + 1 })
    (hs : subscripted slice false (.ref d) (.str x t) = operate [.ref d, .str x t] (getItem (.ref d) (.str x t)) := by with_unfolding_all rfl) (hg : ∀ r, letTemporaryGo value (.ref d) r = pure () := by intro _; with_unfolding_all rfl) :
    wpAny (model pw w) A (subscriptTail value slice (.ref d) (.str x t)) Q E s := by
  obtain ⟨kvs, hk, hv⟩ := hd
  obtain ⟨⟨u, e⟩, _⟩ := hv x hx
  have hD : s.heap.DictOf (PySem.strKind pw w) d kvs := Heap.dictOf_iff.mpr ⟨o, (N _ hm).1, hk⟩
  exact subscriptTail_builtin hD.typeIs slot_dict_getitem.lookup (wpAny_getItem_of (strKind_is pw w x t) hD.mapOf e (h u)) hs hg
theorem val_notin (N : News h₀ L s.heap news) (hm : (d, o) ∈ news) (hd : DictVals w o env) (hlo : (d == sysModules) = false) (hx : Nm x) (h : Q (.bool false) { s with toks := s.toks + 1 }) :
    wpAny (model pw w) A (compareOp .NotIn (.str x t) (.ref d)) Q E s := by
  obtain ⟨kvs, hk, hv⟩ := hd
  obtain ⟨⟨u, e⟩, _⟩ := hv x hx
  have hD : s.heap.DictOf (PySem.strKind pw w) d kvs := Heap.dictOf_iff.mpr ⟨o, (N _ hm).1, hk⟩
  exact wpAny_notIn_of (strKind_is pw w x t) hlo hD.mapOf (by rw [e]; exact h)
end
noncomputable def LenB (vs : List Value) (k : Int) : Prop := (vs.length : Int) = k ∧ k ≤ 1000
theorem lenB_snoc {vs : List Value} {k : Int} {x : Value} (h : LenB vs k) : LenIs (vs ++ [x]) (k + 1) := ⟨by rw [List.length_append, ← h.1]; rfl, by have := h.2; omega⟩
theorem ints_snoc {a : Int} {p : List Int} : ∀ {vs : List Value}, IntsAre vs (p ++ [a]) → ∃ us t, vs = us ++ [.int a t] ∧ IntsAre us p := by
  induction p with
  | nil =>
    intro vs h
    cases h with
    | cons n t h => cases h; exact ⟨[], t, rfl, .nil⟩
  | cons k p ih =>
    intro vs h
    cases h with
    | cons n t h =>
      obtain ⟨us, t', rfl, h'⟩ := ih h
      exact ⟨.int k t :: us, t', rfl, .cons k t h'⟩
end Mine
end

section
open PySem PySem.W PyProof.Rows PyProof.Rows.LCg
namespace Mine
open PySem.Spec PySem.Calls
set_option maxRecDepth 100000
section
variable {prog : Program} {w : World} {A : Around} {E : Value → Shared → Prop} {s s₁ : Shared} {h₀ : Heap} {L : Addr} {m : Str → Option Value} {env : Env}
theorem ce0 {I C D : Addr} {oI oC oD : Obj} {S : List (Addr × Obj) → Prop} {rest : Value → List (Addr × Obj) → Prop} {y : Value} {h' : Heap} {tk : Nat} {news : List (Addr × Obj)}
    (F : Fr h₀ L h' m) (N : News h₀ L h' ((I, oI) :: (C, oC) :: (D, oD) :: news)) (off : Off3 I C D news) (hS : S news) (r : rest y news) : CompEnd h₀ L m s₁ I oI C oC D oD S rest y { s₁ with heap := h', toks := tk } :=
  CompEnd.intro F N news (fun _ hp => hp) off hS r
theorem ce1 {I C D q : Addr} {oq : Obj} {oI oC oD : Obj} {S : List (Addr × Obj) → Prop} {rest : Value → List (Addr × Obj) → Prop} {y : Value} {h' : Heap} {tk : Nat} {news : List (Addr × Obj)}
    (F : Fr h₀ L h' m) (N : News h₀ L h' ((q, oq) :: (I, oI) :: (C, oC) :: (D, oD) :: news)) (hq : (@Ne Nat q I) ∧ (@Ne Nat q C) ∧ (@Ne Nat q D)) (off : Off3 I C D news) (hS : S ((q, oq) :: news)) (r : rest y ((q, oq) :: news)) :
    CompEnd h₀ L m s₁ I oI C oC D oD S rest y { s₁ with heap := h', toks := tk } :=
  CompEnd.intro F N ((q, oq) :: news) (fun p hp => by
    rcases List.mem_cons.mp hp with rfl | hp
    · exact .tail _ (.head _)
    rcases List.mem_cons.mp hp with rfl | hp
    · exact .tail _ (.tail _ (.head _))
    rcases List.mem_cons.mp hp with rfl | hp
    · exact .tail _ (.tail _ (.tail _ (.head _)))
    rcases List.mem_cons.mp hp with rfl | hp
    · exact .head _
    · exact .tail _ (.tail _ (.tail _ (.tail _ hp)))) ⟨hq, off⟩ hS r
/-- a comprehension's source, whatever its iterator -/
noncomputable def BlockAt (prog : Program) (w : World) (A : Around) (h₀ : Heap) (L : Addr) (m : Str → Option Value) (env : Env) (elt : Expr) (x : Str) (scope : Scope) (cl : List (Str × Addr)) (Fin : Shared → List Value → List (Addr × Obj) → Prop) (it : Value) (s₂ : Shared) : Prop :=
  ∃ (I : Addr) (fp : List Addr) (n : Nat) (P : Nat → Value → Prop) (St : Nat → Heap → Prop) (S : List (Addr × Obj) → Prop) (news : List (Addr × Obj)),
    it = .ref I ∧ Walks prog w A I fp [I] n P St ∧ n ≤ sizeLine ∧ (∀ i h, St i h → ∃ o, h.get? I = some o) ∧
    (∀ i h h' o nw, St i h → h.get? I = some o → h'.get? I = some o → (∀ b o, h₀.get? b = some o → h'.get? b = some o) → News h₀ L h' nw → S nw → St i h') ∧
    St 0 s₂.heap ∧ (∀ b ∈ fp, b < s₂.heap.objs.size) ∧ Fr h₀ L s₂.heap m ∧ News h₀ L s₂.heap news ∧ L ≠ I ∧ h₀.get? I = none ∧ (∀ p ∈ news, p.1 ≠ I) ∧ S news ∧
    CompRest prog w A h₀ L m env elt x scope cl s₂ S P (Fin s₂) n 0 [] news
theorem ListComp_W {elt iter : Expr} {x : Str} {px : Pos} {scope : Scope} {cl : List (Str × Addr)} {pos : Pos} {Q : Value → Shared → Prop} (F₀z : Fr h₀ L s.heap m)
    (hclos : closureFor scope env = pure cl) (hcell : ∀ y ∈ scope.names, y.2 ≠ .cell) (hkind : scope.kind = .function)
    (hnames : ∀ y ∈ scope.names, y.2 = .local → scope.names.lookup y.1 = some .local) (hx : scope.names.lookup x = some .local)
    (h : wpAny (model prog w) A (eval iter env) (fun xv s₁ => wpAny (model prog w) A (pyIter xv) (BlockAt prog w A h₀ L m env elt x scope cl (fun s₂ => FinE h₀ L m s₂ Q)) E s₁) E s)
    (hs : ∀ x, foldedSetIterable iter env x = pure x := by intro _; rfl) :
    wpAny (model prog w) A (eval (.ListComp elt [⟨.Name x px, iter, [], 0⟩] scope pos) env) Q E s := by
  rw [eval_ListComp]
  refine wpAny_comprehension_free (use := none) rfl hs hclos hkind hnames (wpAny_mono h (fun xv s₁ h₁ => wpAny_mono h₁ (fun it s₂ h₂ => ?_) fun _ _ e => e) fun _ _ e => e)
  obtain ⟨I, fp, n, P, St, S, news, rfl, W, hsz, hIo, hSt, hst, hfp, F, N, hIL, hI₀, off, hS, R⟩ := h₂
  refine block_U W hsz hIo hSt hcell hkind hx hst hfp F N hIL hI₀ off hS R ?_
  intro D C h tk m' ys news' F' N' o1 hn hC₀ hD₀ hCL hDL hCD offC fin
  refine ⟨m', hn, fun h'' hs'' => fin D h'' tk (F'.change hs'' hCL hC₀) (fun p hp => ⟨hs''.extBut _ _ ?_ (N' p hp).1, (N' p hp).2⟩) o1⟩
  rcases List.mem_cons.mp hp with rfl | hp
  · exact Ne.symm hCD
  · exact offC p hp
theorem Assign_ListComp_W {elt iter : Expr} {x y : Str} {px py : Pos} {scope : Scope} {cl : List (Str × Addr)} {pos spos : Pos} {Q : Flow → Shared → Prop} (F₀z : Fr h₀ L s.heap m) (hLe : env.locals = L)
    (hsw : swapsWith (.ListComp elt [⟨.Name x px, iter, [], 0⟩] scope pos) (some (.Name y py)) spos.line env = pure true)
    (hclos : closureFor scope env = pure cl) (hcell : ∀ z ∈ scope.names, z.2 ≠ .cell) (hkind : scope.kind = .function)
    (hnames : ∀ z ∈ scope.names, z.2 = .local → scope.names.lookup z.1 = some .local) (hx : scope.names.lookup x = some .local)
    (hy : env.kindOf y = some .local) (hp : (env.scope.kind == .class || (env.scope.kind == .module && env.locals != env.globals)) = false)
    (h : wpAny (model prog w) A (eval iter env) (fun xv s₁ => wpAny (model prog w) A (pyIter xv) (BlockAt prog w A h₀ L m env elt x scope cl (fun s₂ => FinA h₀ L m s₂ y Q)) E s₁) E s)
    (hs : ∀ x, foldedSetIterable iter env x = pure x := by intro _; rfl) :
    wpAny (model prog w) A (exec (.Assign [.Name y py] (.ListComp elt [⟨.Name x px, iter, [], 0⟩] scope pos) spos) env) Q E s := by
  subst hLe
  rw [exec_Assign_Name_used _ _ _ _ hsw]
  refine wpAny_bind (wpAny_standAt (wpAny_bind ?_))
  show wpAny _ A (do let _ ← comprehension (.ListComp elt [⟨.Name x px, iter, [], 0⟩] scope pos) scope env _ (newList []) false (eval iter env) (some (assign (.Name y py) env))) _ _ s
  refine wpAny_bind (wpAny_mono (wpAny_comprehension_free (use := some (assign (.Name y py) env)) (Q := fun _ s' => Q .next s') rfl hs hclos hkind hnames
    (wpAny_mono h (fun xv s₁ h₁ => wpAny_mono h₁ (fun it s₂ h₂ => ?_) fun _ _ e => e) fun _ _ e => e)) (fun _ s' hq => wpAny_pure (wpAny_pure hq)) fun _ _ e => e)
  obtain ⟨I, fp, n, P, St, S, news, rfl, W, hsz, hIo, hSt, hst, hfp, F, N, hIL, hI₀, off, hS, R⟩ := h₂
  refine block_U W hsz hIo hSt hcell hkind hx hst hfp F N hIL hI₀ off hS R ?_
  intro D C h' tk m' ys news' F' N' o1 hn hC₀ hD₀ hCL hDL hCD offC fin
  show wpAny _ A (assign (.Name y py) env (.ref D)) _ _ _
  refine wpAny_assign_Name (wpAny_storeName_local hy F'.ns (fun h₂ hn₂ hs₂ => ?_) hp)
  have hL₀ : h₀.get? env.locals = none := Heap.get?_none_of_le F'.above
  have F₂ : Fr h₀ env.locals h₂ (fun z => if z = y then some (.ref D) else m z) := F'.set hn₂ hs₂
  refine ⟨m', hn.sameBut hs₂ hCL, fun h'' hs'' => fin D h'' _ (F₂.change hs'' hCL hC₀) (fun p hp => ?_) o1⟩
  have z : h₂.get? p.1 = some p.2 := hs₂.extBut _ _ (N' p hp).2.1 (N' p hp).1
  refine ⟨hs''.extBut _ _ ?_ z, (N' p hp).2⟩
  rcases List.mem_cons.mp hp with rfl | hp
  · exact Ne.symm hCD
  · exact offC p hp
section
variable {elt : Expr} {x : Str} {scope : Scope} {cl : List (Str × Addr)} {Fin : Shared → List Value → List (Addr × Obj) → Prop} {news : List (Addr × Obj)}
theorem blk_tuple {t : Addr} {vs : List Value} {k : Nat} (hh : A.handled = none) (F : Fr h₀ L s₁.heap m) (N : News h₀ L s₁.heap news) (hm : (t, ({ cls := .type "tuple", data := .seq vs.toArray k } : Obj)) ∈ news) (hsz : vs.length ≤ sizeLine)
    (h : ∀ g, CompRest prog w A h₀ L m env elt x scope cl { s₁ with heap := g } (fun nw => (t, ({ cls := .type "tuple", data := .seq vs.toArray k } : Obj)) ∈ nw) (fun i v => vs.toArray[i]? = some v) (Fin { s₁ with heap := g }) vs.length 0 [] news) :
    wpAny (model prog w) A (pyIter (.ref t)) (BlockAt prog w A h₀ L m env elt x scope cl Fin) E s₁ := by
  have hl : s₁.heap.IsTuple t vs.toArray := ⟨_, (N _ hm).1, rfl, k, rfl⟩
  have hlt : t < s₁.heap.objs.size := Heap.lt_size (N _ hm).1
  have up : ∀ b o, s₁.heap.get? b = some o → (s₁.heap.push { cls := .type "tuple_iterator", data := .fields #[.ref t, .int 0 0] }).get? b = some o := fun b o e => Heap.get?_push_of_some _ e
  have hlen : vs.toArray.size = vs.length := by simp
  have W := Walks.tuple (prog := prog) (w := w) hh s₁.heap.objs.size t (Nat.ne_of_lt hlt) vs.toArray
  rw [hlen] at W
  refine wpAny_pyIter_tuple hl ⟨s₁.heap.objs.size, [s₁.heap.objs.size, t], vs.length, _, _, fun nw => (t, ({ cls := .type "tuple", data := .seq vs.toArray k } : Obj)) ∈ nw, news, rfl, W, hsz, (fun i h st => by obtain ⟨o, e, _⟩ := st.1; exact ⟨o, e⟩), ?_, ⟨⟨_, Heap.get?_push_size _ rfl, rfl, rfl⟩, _, up _ _ (N _ hm).1, rfl, k, rfl⟩, (fun b hb => ?_), F.keeps up, N.grown up, Nat.ne_of_lt F.ns.lt, next_is_new F, (fun p hp => Nat.ne_of_lt (Heap.lt_size (N p hp).1)), hm, h _⟩
  · intro i h h' o nw st e e' _ N' S'
    obtain ⟨o', q, r⟩ := st.1
    rw [e] at q
    cases q
    exact ⟨⟨o, e', r⟩, _, (N' _ S').1, rfl, k, rfl⟩
  · show b < (s₁.heap.push _).objs.size
    rw [Heap.size_push]
    rcases List.mem_cons.mp hb with rfl | hb
    · exact Nat.lt_succ_self _
    · rw [List.mem_singleton.mp hb]; exact Nat.lt_succ_of_lt hlt
theorem blk_rev {t l : Addr} {vs rs : List Value} {k : Nat} (hh : A.handled = none) (F : Fr h₀ L s₁.heap m) (N : News h₀ L s₁.heap news) (hm : (l, listOf vs.toArray k) ∈ news) (ht : (t, ({ cls := .type "list_reverseiterator", data := .fields #[.ref l, rawInt ((vs.length : Int) - 1)] } : Obj)) ∈ news) (hr : rs = vs.reverse) (hsz : rs.length ≤ sizeLine)
    (h : CompRest prog w A h₀ L m env elt x scope cl s₁ (fun nw => (l, listOf vs.toArray k) ∈ nw) (fun i v => rs.toArray[i]? = some v) (Fin s₁) rs.length 0 [] (offA t news)) :
    wpAny (model prog w) A (pyIter (.ref t)) (BlockAt prog w A h₀ L m env elt x scope cl Fin) E s₁ := by
  have hne : l ≠ t := news_ne N hm ht (show Value.type "list" ≠ Value.type "list_reverseiterator" by decide)
  have hlt : l < s₁.heap.objs.size := Heap.lt_size (N _ hm).1
  have htt : t < s₁.heap.objs.size := Heap.lt_size (N _ ht).1
  have hsize : vs.toArray.size = rs.length := by rw [hr]; simp
  have W0 := Walks.listRev (prog := prog) (w := w) hh t l hne vs.toArray
  have W : Walks prog w A t [t, l] [t] rs.length (fun i v => rs.toArray[i]? = some v) (fun i h => i ≤ vs.toArray.size ∧ h.IsRevIter t l ((vs.toArray.size : Int) - 1 - (i : Int)) ∧ h.IsList l vs.toArray) := by
    rw [← hsize]
    refine { sub := W0.sub, frame := W0.frame, done := W0.done, self := W0.self, item := fun i s Q E hi st hQ => W0.item i s Q E hi st fun v h' tk hP => hQ v h' tk ?_ }
    have hi' : i < vs.length := by simpa using hi
    subst hr
    simp only [List.getElem?_toArray, List.size_toArray] at hP ⊢
    rw [List.getElem?_reverse hi']
    exact hP
  have hit : s₁.heap.IsRevIter t l ((vs.toArray.size : Int) - 1 - ((0 : Nat) : Int)) := ⟨_, (N _ ht).1, rfl, by simp⟩
  refine wpAny_pyIter_revIter hit ⟨t, [t, l], rs.length, _, _, fun nw => (l, listOf vs.toArray k) ∈ nw, offA t news, rfl, W, hsz, (fun i h st => by obtain ⟨o, e, _⟩ := st.2.1; exact ⟨o, e⟩), ?_, ⟨Nat.zero_le _, hit, _, (N _ hm).1, rfl, k, rfl⟩, (fun b hb => ?_), F, newsSub N offA_sub, Ne.symm (N _ ht).2.1, (N _ ht).2.2, offA_ne, mem_offA hm hne, h⟩
  · intro i h h' o nw st e e' _ N' S'
    obtain ⟨o', q, r⟩ := st.2.1
    rw [e] at q
    cases q
    exact ⟨st.1, ⟨o, e', r⟩, _, (N' _ S').1, rfl, k, rfl⟩
  · rcases List.mem_cons.mp hb with rfl | hb
    · exact htt
    · rw [List.mem_singleton.mp hb]; exact hlt
theorem blk_str {y : Str} {t : Tok} (hh : A.handled = none) (ha : y.cps.all (· < 128) = true) (F : Fr h₀ L s₁.heap m) (N : News h₀ L s₁.heap news) (hsz : y.cps.size ≤ sizeLine)
    (h : ∀ g, CompRest prog w A h₀ L m env elt x scope cl { s₁ with heap := g } (fun _ => True) (SignAt y) (Fin { s₁ with heap := g }) y.cps.size 0 [] news) :
    wpAny (model prog w) A (pyIter (.str y t)) (BlockAt prog w A h₀ L m env elt x scope cl Fin) E s₁ := by
  refine wpAny_pyIter_ascii ha ⟨s₁.heap.objs.size, [s₁.heap.objs.size], y.cps.size, _, _, fun _ => True, news, rfl, Walks.strAscii hh _ y t, hsz, (fun i h st => by obtain ⟨o, e, _⟩ := st; exact ⟨o, e⟩), ?_, ⟨_, Heap.get?_push_size _ rfl, rfl, rfl⟩, (fun b hb => ?_), F.push _, (fun p hp => ⟨Heap.get?_push_of_some _ (N p hp).1, (N p hp).2⟩), Nat.ne_of_lt F.ns.lt, next_is_new F, (fun p hp => Nat.ne_of_lt (Heap.lt_size (N p hp).1)), trivial, h _⟩
  · intro i h h' o nw st e e' _ N' S'
    obtain ⟨o', q, r⟩ := st
    rw [e] at q
    cases q
    exact ⟨o, e', r⟩
  · rw [List.mem_singleton.mp hb]
    show s₁.heap.objs.size < (s₁.heap.push _).objs.size
    rw [Heap.size_push]; exact Nat.lt_succ_self _
end
end
end Mine
end

section
open PySem PySem.W PyProof.Rows PyProof.Rows.LCg
namespace Mine
open PySem.Spec PySem.Calls
set_option maxRecDepth 100000
theorem pick_from {p q : List Value} {x : Int} (hx : x = (p.length : Int)) : (slicePick (p ++ q).toArray (some x) none none).toList = q := by
  subst hx
  have e : sliceBounds (some (p.length : Int)) none none (p ++ q).toArray.size = ((p.length : Int), (((p ++ q).length : Nat) : Int), 1) := by
    simp only [sliceBounds, Option.getD_none, show (1 : Int) > 0 by decide, if_true, List.size_toArray, List.length_append]
    congr 1
    omega
  rw [kmk_pick_nat _ e]
  simp
theorem pick_to {p q : List Value} {x : Int} (hx : x = (p.length : Int)) : (slicePick (p ++ q).toArray none (some x) none).toList = p := by
  subst hx
  have e : sliceBounds none (some (p.length : Int)) none (p ++ q).toArray.size = (((0 : Nat) : Int), ((p.length : Nat) : Int), 1) := by
    simp only [sliceBounds, Option.getD_none, show (1 : Int) > 0 by decide, if_true, List.size_toArray, List.length_append]
    congr 1
    congr 1
    omega
  rw [kmk_pick_nat _ e]
  simp
theorem pick_none {p : List Value} {x : Int} (hx : x = (p.length : Int)) : (slicePick p.toArray (some x) none none).toList = [] := by
  have := pick_from (q := []) hx
  rwa [List.append_nil] at this
theorem pick_all {p : List Value} {x : Int} (hx : x = (p.length : Int)) : (slicePick p.toArray none (some x) none).toList = p := by
  have := pick_to (q := []) hx
  rwa [List.append_nil] at this
section
variable {prog : Program} {w : World} {A : Around} {E : Value → Shared → Prop} {s s₁ : Shared} {h₀ : Heap} {L : Addr} {m : Str → Option Value} {env : Env} {news : List (Addr × Obj)}
theorem rev_L {l : Addr} {vs : List Value} {k : Nat} {Q : Value → Shared → Prop} (F : Fr h₀ L s.heap m) (N : News h₀ L s.heap news) (hm : (l, listOf vs.toArray k) ∈ news)
    (h : ∀ t h', Fr h₀ L h' m → News h₀ L h' ((t, ({ cls := .type "list_reverseiterator", data := .fields #[.ref l, rawInt ((vs.length : Int) - 1)] } : Obj)) :: news) → (∀ p ∈ news, p.1 < t) → Q (.ref t) { s with heap := h' }) :
    wpAny (model prog w) A (call (.type "reversed") [.ref l]) Q E s := by
  refine call_reversed_list (listAt' N hm) ?_
  rw [List.size_toArray]
  exact h _ _ (F.push _) (News.push F N _) fun p hp => Heap.lt_size (N p hp).1
where
  listAt' {h₀ h : Heap} {L l : Addr} {vs : List Value} {k : Nat} {news : List (Addr × Obj)} (N : News h₀ L h news) (hm : (l, listOf vs.toArray k) ∈ news) : h.IsList l vs.toArray := ⟨_, (N _ hm).1, rfl, k, rfl⟩
theorem blk_rev2 {elt : Expr} {x : Str} {scope : Scope} {cl : List (Str × Addr)} {Fin : Shared → List Value → List (Addr × Obj) → Prop} {t l : Addr} {vs rs : List Value} {k : Nat} (hh : A.handled = none) (F : Fr h₀ L s₁.heap m)
    (N : News h₀ L s₁.heap ((t, ({ cls := .type "list_reverseiterator", data := .fields #[.ref l, rawInt ((vs.length : Int) - 1)] } : Obj)) :: news)) (hm : (l, listOf vs.toArray k) ∈ news) (hlt' : ∀ p ∈ news, p.1 < t) (hr : rs = vs.reverse) (hsz : rs.length ≤ sizeLine)
    (h : CompRest prog w A h₀ L m env elt x scope cl s₁ (fun nw => (l, listOf vs.toArray k) ∈ nw) (fun i v => rs.toArray[i]? = some v) (Fin s₁) rs.length 0 [] news) :
    wpAny (model prog w) A (pyIter (.ref t)) (BlockAt prog w A h₀ L m env elt x scope cl Fin) E s₁ := by
  have ht := N _ (.head _)
  have hm' := N _ (.tail _ hm)
  have hne : l ≠ t := Nat.ne_of_lt (hlt' _ hm)
  have hlt : l < s₁.heap.objs.size := Heap.lt_size hm'.1
  have htt : t < s₁.heap.objs.size := Heap.lt_size ht.1
  have hsize : vs.toArray.size = rs.length := by rw [hr]; simp
  have W0 := Walks.listRev (prog := prog) (w := w) hh t l hne vs.toArray
  have W : Walks prog w A t [t, l] [t] rs.length (fun i v => rs.toArray[i]? = some v) (fun i h => i ≤ vs.toArray.size ∧ h.IsRevIter t l ((vs.toArray.size : Int) - 1 - (i : Int)) ∧ h.IsList l vs.toArray) := by
    rw [← hsize]
    refine { sub := W0.sub, frame := W0.frame, done := W0.done, self := W0.self, item := fun i s Q E hi st hQ => W0.item i s Q E hi st fun v h' tk hP => hQ v h' tk ?_ }
    have hi' : i < vs.length := by simpa using hi
    subst hr
    simp only [List.getElem?_toArray, List.size_toArray] at hP ⊢
    rw [List.getElem?_reverse hi']
    exact hP
  have hit : s₁.heap.IsRevIter t l ((vs.toArray.size : Int) - 1 - ((0 : Nat) : Int)) := ⟨_, ht.1, rfl, by simp⟩
  refine wpAny_pyIter_revIter hit ⟨t, [t, l], rs.length, _, _, fun nw => (l, listOf vs.toArray k) ∈ nw, news, rfl, W, hsz, (fun i h st => by obtain ⟨o, e, _⟩ := st.2.1; exact ⟨o, e⟩), ?_, ⟨Nat.zero_le _, hit, _, hm'.1, rfl, k, rfl⟩, (fun b hb => ?_), F, newsSub N (fun p hp => .tail _ hp), Ne.symm ht.2.1, ht.2.2, fun p hp => Nat.ne_of_lt (hlt' p hp), hm, h⟩
  · intro i h h' o nw st e e' _ N' S'
    obtain ⟨o', q, r⟩ := st.2.1
    rw [e] at q
    cases q
    exact ⟨st.1, ⟨o, e', r⟩, _, (N' _ S').1, rfl, k, rfl⟩
  · rcases List.mem_cons.mp hb with rfl | hb
    · exact htt
    · rw [List.mem_singleton.mp hb]; exact hlt
end
theorem off1_mem {D : Addr} {l : List (Addr × Obj)} (h : Off1 D l) : ∀ p ∈ l, p.1 ≠ D := by
  induction l with
  | nil => intro p hp; cases hp
  | cons q r ih =>
    intro p hp
    rcases List.mem_cons.mp hp with rfl | hp
    · exact h.1
    · exact ih h.2 p hp
theorem off1_ne {D a : Addr} {o o' : Obj} {l : List (Addr × Obj)} (h : Off1 D l) (hm : (a, o) ∈ l) : (D, o').1 ≠ a := Ne.symm (off1_mem h _ hm)
end Mine
end

section
open PySem PySem.W PyProof.Rows PyProof.Rows.LCg PyProof.Rows.LCt
namespace Mine
open PySem.Spec PySem.Calls
set_option maxRecDepth 100000
section
variable {prog : Program} {w : World} {A : Around} {s : Shared} {h₀ : Heap} {L : Addr} {m : Str → Option Value} {env : Env} {elt ct : Expr} {x : Str} {scope : Scope} {cl : List (Str × Addr)} {S : List (Addr × Obj) → Prop} {P : Nat → Value → Prop} {Fin : List Value → List (Addr × Obj) → Prop} {n : Nat}
theorem compEnd_mono {I C D : Addr} {oI oC oD : Obj} {r r' : Value → List (Addr × Obj) → Prop} {y : Value} {s₂ : Shared} (h : CompEnd h₀ L m s I oI C oC D oD S r y s₂) (k : ∀ y nx, r y nx → r' y nx) : CompEnd h₀ L m s I oI C oC D oD S r' y s₂ := by
  obtain ⟨h', tk, nx, e, F, N, o, hS, hr⟩ := h
  exact ⟨h', tk, nx, e, F, N, o, hS, k _ _ hr⟩
theorem compRest_ind (J : Nat → List Value → List (Addr × Obj) → Prop) (done : ∀ ys nx, J n ys nx → Fin ys nx)
    (turn : ∀ i ys nx, i < n → J i ys nx → ∀ v I oI C oC D m₂ h tk (E' : Value → Shared → Prop), P i v → NsObj oC m₂ → m₂ x = some v → Fr h₀ L h m → News h₀ L h ((I, oI) :: (C, oC) :: (D, lst ys) :: nx) → Off3 I C D nx →
      wpAny (model prog w) A (eval elt (compEnvC scope cl C env)) (CompEnd h₀ L m { s with heap := h, toks := tk } I oI C oC D (lst ys) S (fun y nx' => J (i + 1) (ys ++ [y]) nx')) E' { s with heap := h, toks := tk }) :
    ∀ k i ys nx, i + k = n → J i ys nx → CompRest prog w A h₀ L m env elt x scope cl s S P Fin k i ys nx
  | 0, i, ys, nx, e, j => by
    have : i = n := by omega
    subst this
    exact CompRest.zero (done _ _ j)
  | k + 1, i, ys, nx, e, j => CompRest.succ fun v I oI C oC D m₂ h tk E' hv hC hx F N off _ => wpAny_mono (turn i ys nx (by omega) j v I oI C oC D m₂ h tk E' hv hC hx F N off) (fun y s₂ q => compEnd_mono q fun y nx' j' => compRest_ind J done turn k (i + 1) _ _ (by omega) j') fun _ _ q => q
theorem compRestT_ind (J : Nat → List Value → List (Addr × Obj) → Prop) (done : ∀ ys nx, J n ys nx → Fin ys nx)
    (turn : ∀ i ys nx, i < n → J i ys nx → ∀ v I oI C oC D m₂ h tk (E' : Value → Shared → Prop), P i v → NsObj oC m₂ → m₂ x = some v → Fr h₀ L h m → News h₀ L h ((I, oI) :: (C, oC) :: (D, lst ys) :: nx) → Off3 I C D nx →
      wpAny (model prog w) A (isTrue ct (compEnvC scope cl C env) (eval ct (compEnvC scope cl C env))) (fun ok s' => if ok = true then
        wpAny (model prog w) A (eval elt (compEnvC scope cl C env)) (CompEnd h₀ L m { s with heap := h, toks := tk } I oI C oC D (lst ys) S (fun y nx' => J (i + 1) (ys ++ [y]) nx')) E' s'
        else CompEnd h₀ L m { s with heap := h, toks := tk } I oI C oC D (lst ys) S (fun _ nx' => J (i + 1) ys nx') Value.none s') E' { s with heap := h, toks := tk }) :
    ∀ k i ys nx, i + k = n → J i ys nx → CompRestT prog w A h₀ L m env ct elt x scope cl s S P Fin k i ys nx
  | 0, i, ys, nx, e, j => by
    have : i = n := by omega
    subst this
    exact CompRestT.zero (done _ _ j)
  | k + 1, i, ys, nx, e, j => CompRestT.succ fun v I oI C oC D m₂ h tk E' hv hC hx F N off _ => wpAny_mono (turn i ys nx (by omega) j v I oI C oC D m₂ h tk E' hv hC hx F N off) (fun ok s' q => by
      by_cases hok : ok = true
      · rw [if_pos hok] at q ⊢
        exact wpAny_mono q (fun y s₂ q => compEnd_mono q fun y nx' j' => compRestT_ind J done turn k (i + 1) _ _ (by omega) j') fun _ _ q => q
      · rw [if_neg hok] at q ⊢
        exact compEnd_mono q fun y nx' j' => compRestT_ind J done turn k (i + 1) _ _ (by omega) j') fun _ _ q => q
end
/-- the ledger off a comprehension's own three -/
noncomputable def off3 (I C D : Addr) (l : List (Addr × Obj)) : List (Addr × Obj) := offA I (offA C (offA D l))
theorem off3_sub {I C D : Addr} {l : List (Addr × Obj)} : ∀ p ∈ off3 I C D l, p ∈ l := fun p hp => offA_sub p (offA_sub p (offA_sub p hp))
theorem off3_off {I C D : Addr} {l : List (Addr × Obj)} : Off3 I C D (off3 I C D l) := Off3.of fun p hp => ⟨offA_ne p hp, offA_ne p (offA_sub p hp), offA_ne p (offA_sub p (offA_sub p hp))⟩
theorem mem_off3 {I C D : Addr} {l : List (Addr × Obj)} {p : Addr × Obj} (h : p ∈ l) (k : p.1 ≠ I ∧ p.1 ≠ C ∧ p.1 ≠ D) : p ∈ off3 I C D l := mem_offA (mem_offA (mem_offA h k.2.2) k.2.1) k.1
theorem sign_item {k : Int} (h0 : 0 ≤ k) (h1 : k < 2) : Txt.item (Str.ofString "+*") k = Str.ofString "+" ∨ Txt.item (Str.ofString "+*") k = Str.ofString "*" := by
  have e : k = 0 ∨ k = 1 := by omega
  rcases e with rfl | rfl
  · exact .inl (by decide +kernel)
  · exact .inr (by decide +kernel)
theorem nm_item {k : Int} (h0 : 0 ≤ k) (h1 : k < 5) : Nm (Txt.item (Str.ofString "ABCDE") k) := by
  have e : k = 0 ∨ k = 1 ∨ k = 2 ∨ k = 3 ∨ k = 4 := by omega
  rcases e with rfl | rfl | rfl | rfl | rfl
  · exact .inl (by decide +kernel)
  · exact .inr (.inl (by decide +kernel))
  · exact .inr (.inr (.inl (by decide +kernel)))
  · exact .inr (.inr (.inr (.inl (by decide +kernel))))
  · exact .inr (.inr (.inr (.inr (by decide +kernel))))
end Mine
end

section
open PySem PySem.W PyProof.Rows
namespace Mine
open PySem.Spec PySem.Calls
set_option maxRecDepth 100000
theorem list_no_keys : typeLookup (.type "list") (Str.ofString "keys") = pure none := am_miss_of_fast (by decide +kernel)
theorem plain_dict_update_loop : plainId "dict.update.loop" = true := by decide +kernel
theorem entry_dict_update_loop : entryFor table "dict.update.loop" = some Builtin.«dict.update.loop» := entryFor_of_tree (by kernel_rfl)
section
variable {prog : Program} {w : World} {A : Around} {E : Value → Shared → Prop} {s : Shared}
theorem miss_keys {a : Addr} {xs : Array Value} {k : Nat} {Q : Option Value → Shared → Prop} (hx : s.heap.get? a = some { cls := .type "list", dict := none, data := .seq xs k, slots := #[] }) (hA : A.handled = none)
    (h : ∀ h' tk, (∀ b o, s.heap.get? b = some o → h'.get? b = some o) → Q none { s with heap := h', toks := tk }) :
    wpAny (model prog w) A (getAttr? (.ref a) "keys") Q E s := by
  obtain ⟨hp, g, d, tk, os⟩ := s
  have hT : ∀ tk', (⟨hp, g, d, tk', os⟩ : Shared).TypeIs (.ref a) "list" := fun _ => ⟨_, hx, rfl⟩
  have f1 := sub_AttributeError
  have f3 := F.slot_list_getattribute.lookup
  have f4 := F.slot_list_getattribute.bind (.ref a)
  have f5 := am_list_getattr_none
  unfold getAttr? getAttrBy? getAttrBy
  repeat (any_goals (first | assumption | exact hT _ | ((with_reducible show wpAny _ _ (call (Value.builtin "list.__getattribute__") _ _) _ _ _); refine call_meets F.slot_list_getattribute (hT _) am_entry_list_getattribute (F.args_list_getattribute_2 _ _) (meets_getattribute_miss_list a xs k #[] _ _ list_no_keys (by decide +kernel)) ⟨hx, hA, fun h' tk' e hx' => ?_⟩) | wp_step))
  obtain ⟨t', u', he⟩ := hx'.there
  show wpAny _ _ (getattributeRaised _ _ _ _ _ _ _) _ _ _
  unfold getattributeRaised
  repeat (any_goals (first | assumption | wp_step))
  exact h _ _ hx'.keeps
end
/-- the pairs of a list, each a tuple of a text and a value, apart from two places -/
inductive PairsAt (d it : Addr) (h : Heap) : List Value → List (Str × Value) → Prop
  | nil : PairsAt d it h [] []
  | cons {t : Addr} {k : Str} {u : Tok} {v : Value} {n : Nat} {r : List Value} {more : List (Str × Value)} (h1 : t ≠ d) (h2 : t ≠ it) (h3 : h.get? t = some { cls := .type "tuple", data := .seq #[.str k u, v] n }) (h4 : PairsAt d it h r more) : PairsAt d it h (.ref t :: r) ((k, v) :: more)
theorem PairsAt.keep {d it : Addr} {h h' : Heap} {r : List Value} {more : List (Str × Value)} (p : PairsAt d it h r more) (k : ∀ b o, b ≠ d → b ≠ it → h.get? b = some o → h'.get? b = some o) : PairsAt d it h' r more := by
  induction p with
  | nil => exact .nil
  | cons h1 h2 h3 _ ih => exact .cons h1 h2 (k _ _ h1 h2 h3) ih
section
variable {w : World} {E : Value → Shared → Prop}
theorem upd_loop {d it l : Addr} {res : Value} {nl : Nat} (hdi : d ≠ it) (hld : l ≠ d) (hli : l ≠ it) (vs : List Value) {R : Result → Shared → Prop} : ∀ (r : List Value) (A : Around) (s : Shared) (i : Nat) (kvs more : List (Str × Value)), A.handled = none →
    s.heap.IsListIter it l i → s.heap.get? l = some { cls := .type "list", data := .seq vs.toArray nl } → vs.drop i = r → s.heap.DictOf (PySem.strKind pw w) d kvs → PairsAt d it s.heap r more → kvs.length + more.length ≤ sizeLine →
    (∀ h' tk, h'.DictOf (PySem.strKind pw w) d (merged kvs more) → (∀ b o, b ≠ d → b ≠ it → s.heap.get? b = some o → h'.get? b = some o) → R (.ok (.ret res)) { s with heap := h', toks := tk }) →
    codeAny (model pw w) A (.builtin "dict.update.loop" ⟨[.ref d, .ref it, .int i 0, res], []⟩) R s := by
  intro r
  induction r with
  | nil =>
    intro A s i kvs more hA hit hl hr hd hp hz h
    cases hp
    refine codeAny_builtin entry_dict_update_loop ?_
    rw [Around.under_plainId plain_dict_update_loop _]
    have hL : s.heap.IsList l vs.toArray := ⟨_, hl, rfl, _, rfl⟩
    unfold Builtin.«dict.update.loop»
    refine wpAny_bind (wpAny_pyNext_list_end (A := A.in1) hA hit hL ?_ fun h' hh' => ?_)
    · have := List.drop_eq_nil_iff.mp hr
      simpa using this
    · show wpAny _ _ (Builtin.Dict.addKeywords d [] >>= _) _ _ _
      exact wpAny_bind (wpAny_pure (wpAny_pure (h _ _ (hd.extBut hh' hdi) fun b o _ hb e => hh' b o hb e)))
  | cons v r ih =>
    intro A s i kvs more hA hit hl hr hd hp hz h
    cases hp with
    | @cons t k u v n _ more h1 h2 h3 h4 =>
    refine codeAny_builtin entry_dict_update_loop ?_
    rw [Around.under_plainId plain_dict_update_loop _]
    have hL : s.heap.IsList l vs.toArray := ⟨_, hl, rfl, _, rfl⟩
    unfold Builtin.«dict.update.loop»
    refine wpAny_bind (wpAny_pyNext_list_item hit hL (x := .ref t) ?_ fun h' hit' hh' => ?_)
    · have e : vs[i]? = some (.ref t) := by
        have e1 : (vs.drop i)[0]? = some (.ref t) := by rw [hr]; rfl
        simpa using e1
      simpa using e
    · have ht' := hh'.extBut t _ h2 h3
      have hd' := hd.sameBut hh' hdi
      show wpAny _ _ (holding [Value.ref t] _ >>= _) _ _ _
      refine wpAny_bind (wpAny_holding (wpAny_bind (wpAny_tryCatch ?_)))
      unfold Builtin.Dict.pairItems
      refine wpAny_bind (wpAny_typeOf (T := "tuple") ⟨_, ht', rfl⟩ ?_)
      show wpAny _ _ (seqItems? (.ref t) >>= _) _ _ _
      refine wpAny_bind (wpAny_seqItems ht' rfl ?_)
      refine wpAny_pure ?_
      show wpAny _ _ (holding [Value.str k u, v] (dictSet d (.str k u) v)) _ _ _
      refine wpAny_holding (wpAny_dictSet_pairs (strKind_is pw w k u) hd' (fun h2' hd2 hs2 => ?_) (by simp only [List.length_cons] at hz; omega))
      refine wpAny_pure ⟨plainId_quiet plain_dict_update_loop _, ?_⟩
      have kp : ∀ b o, b ≠ d → b ≠ it → s.heap.get? b = some o → h2'.get? b = some o := fun b o hb1 hb2 e => hs2.extBut b _ hb1 (hh'.extBut b _ hb2 e)
      have hit2 : h2'.IsListIter it l (i + 1) := by
        obtain ⟨o, ho, hc⟩ := hit'
        exact ⟨o, hs2.extBut it _ (Ne.symm hdi) ho, hc⟩
      refine ih A { s with heap := h2', toks := s.toks + 1 } (i + 1) _ more hA hit2 (kp _ _ hld hli hl) (by rw [← List.drop_drop, hr]; rfl) hd2 (h4.keep kp) ?_ fun h3' tk hm km => ?_
      · have := stored_length_le kvs k v
        simp only [List.length_cons] at hz
        omega
      · exact h h3' tk hm fun b o hb1 hb2 e => km b o hb1 hb2 (kp b o hb1 hb2 e)
end
section
variable {w : World} {A : Around} {E : Value → Shared → Prop} {s : Shared} {h₀ : Heap} {L l : Addr} {m : Str → Option Value} {news : List (Addr × Obj)} {vs : List Value} {nl : Nat} {more : List (Str × Value)}
inductive PairsIn (news : List (Addr × Obj)) : List Value → List (Str × Value) → Prop
  | nil : PairsIn news [] []
  | cons {t : Addr} {k : Str} {u : Tok} {v : Value} {n : Nat} {r : List Value} {more : List (Str × Value)} (h1 : (t, ({ cls := .type "tuple", data := .seq #[.str k u, v] n } : Obj)) ∈ news) (h2 : PairsIn news r more) : PairsIn news (.ref t :: r) ((k, v) :: more)
theorem PairsIn.at {d it : Addr} {h : Heap} {r : List Value} (N : News h₀ L h news) (hd : ∀ p ∈ news, p.1 ≠ d) (hi : ∀ p ∈ news, p.1 ≠ it) (p : PairsIn news r more) : PairsAt d it h r more := by
  induction p with
  | nil => exact .nil
  | cons h1 _ ih => exact .cons (hd _ h1) (hi _ h1) (N _ h1).1 ih
theorem PairsIn.length {r : List Value} (p : PairsIn news r more) : more.length = r.length := by
  induction p with
  | nil => rfl
  | cons _ _ ih => rw [List.length_cons, List.length_cons, ih]
theorem call_dict_pairs {Q : Value → Shared → Prop} (hA : A.handled = none) (F₀ : Fr h₀ L s.heap m) (N : News h₀ L s.heap news) (hbig : sysModules < h₀.objs.size) (hl : (l, listOf vs.toArray nl) ∈ news) (hp : PairsIn news vs more) (hsz : vs.length ≤ sizeLine)
    (k : ∀ d h' tk o, Fr h₀ L h' m → News h₀ L h' ((d, o) :: news) → (d == sysModules) = false → o.IsDictOf (PySem.strKind pw w) (merged [] more) → (∀ p ∈ news, p.1 < d) → Q (.ref d) { s with heap := h', toks := tk }) :
    wpAny (model pw w) A (call (.type "dict") [.ref l]) Q E s := by
  refine callType_codes (Q₁ := fun obj s₁ => obj = .ref s.heap.objs.size ∧ s₁ = { s with heap := s.heap.push { cls := .type "dict", data := .dict #[] } }) F.kt_called_dict (F.kt_typeCall_dict_1 _) F.entry_dict_init (kt_code_dict_new _ ⟨rfl, rfl⟩) ?_
  rintro obj s₁ ⟨rfl, rfl⟩
  have hnew : (s.heap.push { cls := .type "dict", data := .dict #[] }).DictOf (PySem.strKind pw w) s.heap.objs.size [] := Heap.DictOf.new s.heap
  have F1 := F₀.push { cls := .type "dict", data := .dict #[] }
  have N1 := News.push F₀ N { cls := .type "dict", data := .dict #[] }
  have lt : ∀ p ∈ news, p.1 < s.heap.objs.size := fun p hp => Heap.lt_size (N p hp).1
  have hlg : (s.heap.push { cls := .type "dict", data := .dict #[] }).get? l = some (listOf vs.toArray nl) := (N1 _ (.tail _ hl)).1
  refine ⟨hnew.typeIs, F.args_dict_init_2 _ _, ?_⟩
  unfold Builtin.«dict.__init__»
  refine wpAny_bind ?_
  unfold Builtin.Dict.selfAndRest
  refine wpAny_bind (wpAny_notOrdered_dict hnew.typeIs ?_)
  show wpAny _ _ (pure (s.heap.objs.size, [Value.ref l])) _ _ _
  refine wpAny_pure ?_
  show wpAny _ _ (Builtin.Dict.updateFrom "dict.__init__" s.heap.objs.size (.ref l) [] .none) _ _ _
  unfold Builtin.Dict.updateFrom
  refine wpAny_bind (wpAny_typeOf (T := "list") ⟨_, hlg, rfl⟩ ?_)
  rw [if_pos (by decide)]
  refine wpAny_bind (miss_keys hlg hA fun h1 tk1 up1 => ?_)
  have F2 := F1.keeps up1
  have N2 := N1.grown up1
  have hl2 : h1.IsList l vs.toArray := ⟨_, up1 _ _ hlg, rfl, _, rfl⟩
  show wpAny _ _ (pyIter (.ref l) >>= _) _ _ _
  refine wpAny_bind (wpAny_pyIter_list hl2 ?_)
  refine wpAny_pure ⟨plainId_quiet plain_dict_update_loop _, ?_⟩
  have hne : s.heap.objs.size ≠ h1.objs.size := Nat.ne_of_lt (Heap.lt_size (N2 _ (.head _)).1)
  obtain ⟨o1, ho1, hd1⟩ := Heap.dictOf_iff.mp hnew
  have hd2 : (h1.push { cls := .type "list_iterator", data := .fields #[.ref l, .int 0 0] }).DictOf (PySem.strKind pw w) s.heap.objs.size [] := Heap.dictOf_iff.mpr ⟨o1, Heap.get?_push_of_some _ (up1 _ _ ho1), hd1⟩
  have up3 : ∀ b o, s.heap.get? b = some o → (h1.push { cls := .type "list_iterator", data := .fields #[.ref l, .int 0 0] }).get? b = some o := fun b o e => Heap.get?_push_of_some _ (up1 _ _ (Heap.get?_push_of_some _ e))
  have N3 : News h₀ L (h1.push { cls := .type "list_iterator", data := .fields #[.ref l, .int 0 0] }) news := N.grown up3
  have hl1 : h1.objs.size ≠ l := Nat.ne_of_gt (Heap.lt_size (N2 _ (.tail _ hl)).1)
  refine upd_loop (l := l) (nl := nl) hne (Nat.ne_of_lt (lt _ hl)) (Ne.symm hl1) vs vs A.in1 { s with heap := h1.push { cls := .type "list_iterator", data := .fields #[.ref l, .int 0 0] }, toks := tk1 } 0 [] more hA ⟨_, Heap.get?_push_size _ rfl, rfl, rfl⟩ (up3 _ _ (N _ hl).1) rfl hd2
    (hp.at N3 (fun p hp => Nat.ne_of_lt (lt p hp)) fun p hp => Nat.ne_of_lt (Heap.lt_size (N2 _ (.tail _ hp)).1)) (by rw [hp.length]; simpa using hsz) fun h' tk hm up4 => ?_
  obtain ⟨o', ho', hd'⟩ := Heap.dictOf_iff.mp hm
  have up5 : ∀ b o, s.heap.get? b = some o → h'.get? b = some o := fun b o e => up4 b o (Nat.ne_of_lt (Heap.lt_size e)) (Nat.ne_of_lt (Heap.lt_size (up1 _ _ (Heap.get?_push_of_some _ e)))) (up3 b o e)
  refine ⟨rfl, k s.heap.objs.size h' tk o' (F₀.keeps up5) (fun p hp => ?_) (F₀.notModules hbig) hd' lt⟩
  rcases List.mem_cons.mp hp with rfl | hp
  · exact ⟨ho', (N1 _ (.head _)).2⟩
  · exact N.grown up5 p hp
end
end Mine
end

open PySem PySem.W PyProof.Rows PyProof.Rows.LCg
namespace Mine
open PySem.Spec PySem.Calls
set_option maxRecDepth 100000
local macro_rules | `(tactic| walk_at "call ref") => `(tactic| k_extra "my call")
local macro_rules | `(tactic| walk_at "binaryOp Add ref ref") => `(tactic| k_extra "my add")
local macro_rules | `(tactic| k_room) => `(tactic| ktr_room)
local macro_rules | `(tactic| k_mem) => `(tactic| first | assumption | exact ktn_subA _ (by assumption) | exact ktn_subC _ (by assumption) | fail "my k_mem")
local macro_rules | `(tactic| ktn_lt) => `(tactic| first | exact ab0 (by assumption) | exact ab1 (by assumption) | exact ab1 (And.right (by assumption)) | exact ab1 (And.right (And.right (by assumption))) | exact ab1 (And.right (And.right (And.right (by assumption)))) | fail "my ktn_lt")
local macro_rules | `(tactic| walk_at "pyIter ref") => `(tactic| k_extra "my iter")
local macro_rules | `(tactic| walk_at "call builtin:list.pop") => `(tactic| (k_here; (with_reducible show wpAny _ _ (call (Value.builtin _) [Value.ref _]) _ _ _); k_dflt (refine' pop_L ?k1 ?k2 ?k3 ?z ?_; (case k1 => k_asm); (case k2 => k_asm); (case k3 => k_upd); (case z => (rw [sizeLine_eq]; (try simp only [List.length_append, List.length_cons, List.length_nil]); omega))); intro h' F' N'; (try k_sweep)))
local macro_rules | `(tactic| walk_at "call builtin:list.append") => `(tactic| (k_here; (with_reducible show wpAny _ _ (call (Value.builtin _) [Value.ref _, _]) _ _ _); k_dflt (refine' append_L ?k1 ?k2 ?k3 ?z ?_; (case k1 => k_asm); (case k2 => k_asm); (case k3 => k_upd); (case z => (rw [sizeLine_eq]; (try simp only [List.length_append, List.length_cons, List.length_nil]); omega))); intro h' F' N'; (try k_sweep)))
local macro_rules | `(tactic| walk_at "call builtin:list.extend") => `(tactic| (k_here; (with_reducible show wpAny _ _ (call (Value.builtin _) [Value.ref _, Value.ref _]) _ _ _); k_dflt (refine' extend_L ?k1 ?k2 ?kb ?kn ?k3 ?z ?_; (case k1 => k_asm); (case k2 => k_asm); (case kb => k_mem); (case kn => first | exact Nat.succ_ne_zero _ | assumption | omega); (case k3 => k_upd); (case z => (rw [sizeLine_eq]; (try simp only [List.length_append, List.length_cons, List.length_nil]); omega))); intro h' F' N'; (try k_sweep)))
local macro_rules | `(tactic| walk_at "call builtin:list.reverse") => `(tactic| (k_here; (with_reducible show wpAny _ _ (call (Value.builtin _) [Value.ref _]) _ _ _); k_dflt (refine' reverse_L ?k1 ?k2 ?k3 ?z ?_; (case k1 => k_asm); (case k2 => k_asm); (case k3 => k_upd); (case z => (rw [sizeLine_eq]; (try simp only [List.length_append, List.length_cons, List.length_nil]); omega))); intro h' F' N'; (try k_sweep)))
local macro_rules | `(tactic| k_all) => `(tactic| assumption)
local macro_rules | `(tactic| walk_at "exec While Compare cons nil") => `(tactic| k_extra "my while")
local macro_rules | `(tactic| walk_at "call builtin:len") => `(tactic| (k_here; (with_reducible show wpAny _ _ (call (Value.builtin "len") [Value.ref _]) _ _ _); k_dflt (refine' len_L ?k1 ?k2 ?k3 ?_; (case k1 => k_asm); (case k2 => k_mem); (case k3 => first | with_reducible assumption | exact lenB_snoc (by with_reducible assumption)); k_whole)))
local macro_rules | `(tactic| walk_at "compareOp In str ref") => `(tactic| (k_here; (with_reducible show wpAny _ _ (compareOp CmpOp.In (Value.str _ _) (Value.ref _)) _ _ _); k_dflt (refine' in_tupB ?k1 ?k2 ?k3 ?_; (case k1 => kun_tup); (case k2 => first | exact .cons _ _ .nil | exact .cons _ _ (.cons _ _ .nil) | exact .cons _ _ (.cons _ _ (.cons _ _ .nil)) | exact .cons _ _ (.cons _ _ (.cons _ _ (.cons _ _ .nil))) | exact .cons _ _ (.cons _ _ (.cons _ _ (.cons _ _ (.cons _ _ .nil)))) | exact .cons _ _ (.cons _ _ (.cons _ _ (.cons _ _ (.cons _ _ (.cons _ _ .nil)))))); (case k3 => first | assumption | exact (show _ = true by decide) | exact (show _ = false by decide)); k_whole)))
local macro_rules | `(tactic| walk_at "subscriptTail") => `(tactic| (k_here; (with_reducible show wpAny _ _ (subscriptTail _ _ (Value.ref _) (Value.str _ _)) _ _ _); k_dflt (refine' val_item ?k1 ?k2 ?k3 ?k4 ?_ ?hs ?hg; (case k1 => k_asm); (case k3 => assumption); (case k2 => k_mem); (case k4 => assumption); (case hs => with_unfolding_all rfl); (case hg => intro _; with_unfolding_all rfl); k_whole); intro _))
local macro_rules | `(tactic| walk_at "compareOp NotIn str ref") => `(tactic| (k_here; (with_reducible show wpAny _ _ (compareOp CmpOp.NotIn (Value.str _ _) (Value.ref _)) _ _ _); k_dflt (refine' val_notin ?k1 ?k2 ?k3 ?k5 ?k4 ?_; (case k1 => k_asm); (case k3 => assumption); (case k2 => k_mem); (case k4 => assumption); (case k5 => assumption); k_whole)))
local macro_rules | `(tactic| walk_at "exec For Name Name cons nil") => `(tactic| (k_here; (rename Fr _ _ _ _ => lF'); (with_unfolding_all refine' For_invVF lF' ?k1 ?k2 ?_; (case k1 => exact rfl); (case k2 => exact rfl); k_whole)))
local macro_rules | `(tactic| walk_at "eval ListComp") => `(tactic| k_extra "my comp")
local macro_rules | `(tactic| walk_at "exec Assign cons ListComp") => `(tactic| k_extra "my acomp")
local macro_rules | `(tactic| walk_at "pyIter ref") => `(tactic| k_extra "my src")
local macro_rules | `(tactic| walk_at "pyIter str") => `(tactic| k_extra "my src")
local macro_rules | `(tactic| walk_at "CompEnd") => `(tactic| (k_dflt (first
  | (refine ce0 (by k_asm) (by k_asm) (by assumption) ?hS ?_; (case hS => first | exact trivial | k_mem))
  | (refine ce1 (by k_asm) (by k_asm) ⟨by k_ne, by k_ne, by k_ne⟩ (by assumption) ?hS ?_; (case hS => first | exact trivial | k_mem)))))
local macro_rules | `(tactic| walk_at "CompRest") => `(tactic| (with_unfolding_all first
  | (refine CompRest.succ ?_; intro v' I' oI' C' oC' D' m' h' tk' E' hv' hC' hx' F' N' off' ne'; (first | lcg_open hv' | (obtain ⟨t9', hv9'⟩ := hv'; subst hv9')); (have off2' := off'); (try simp only [Off3, and_true] at off2'))
  | refine CompRest.zero ?_))
theorem fill_all : K = K ∧ PySem.Challenge.rw_xm0021_01 = PySem.Challenge.rw_xm0021_01 := by
  k_fill
  exact ⟨rfl, rfl⟩

section
/-- a tree of the law: a name, or two under a sign -/
inductive Tr where
  | leaf (x : Str)
  | node (sg : Str) (l r : Tr)
noncomputable def Tr.size : Tr → Nat
  | .leaf _ => 1
  | .node _ l r => l.size + r.size + 1
noncomputable def Tr.need : Tr → Int
  | .leaf _ => 1
  | .node _ l r => if 1 + r.need > l.need then 1 + r.need else l.need
noncomputable def Tr.names : Tr → List Str
  | .leaf x => [x]
  | .node _ l r => l.names ++ r.names
noncomputable def Tr.st : Tr → Int × Tr
  | .leaf x => (1, .leaf x)
  | .node sg l r => if l.st.1 < r.st.1 then ((if r.st.1 = l.st.1 then r.st.1 + 1 else r.st.1), .node sg r.st.2 l.st.2) else ((if l.st.1 = r.st.1 then l.st.1 + 1 else l.st.1), .node sg l.st.2 r.st.2)
noncomputable def Tr.pairs (sg : Str) (l : Tr) : List Tr → List Tr
  | [] => []
  | r :: rs => .node sg l r :: .node sg r l :: Tr.pairs sg l rs
noncomputable def Tr.cross (sg : Str) (rs : List Tr) : List Tr → List Tr
  | [] => []
  | l :: ls => Tr.pairs sg l rs ++ Tr.cross sg rs ls
noncomputable def Tr.exch : Tr → List Tr
  | .leaf x => [.leaf x]
  | .node sg l r => Tr.cross sg r.exch l.exch
noncomputable abbrev tupO (vs : List Value) (n : Nat) : Obj := { cls := .type "tuple", data := .seq vs.toArray n }
inductive TreeIn (news : List (Addr × Obj)) : Value → Tr → Prop where
  | leaf {a : Addr} {t1 t2 : Tok} {x : Str} {n : Nat} : (a, ({ cls := .type "tuple", data := .seq #[.str (Str.ofString "name") t1, .str x t2] n } : Obj)) ∈ news → TreeIn news (.ref a) (.leaf x)
  | node {a : Addr} {t1 t2 : Tok} {sg : Str} {v w : Value} {l r : Tr} {n : Nat} : (a, ({ cls := .type "tuple", data := .seq #[.str (Str.ofString "two") t1, .str sg t2, v, w] n } : Obj)) ∈ news → TreeIn news v l → TreeIn news w r → TreeIn news (.ref a) (.node sg l r)
theorem TreeIn.mono {news news' : List (Addr × Obj)} {v : Value} {t : Tr} (h : TreeIn news v t) (hs : ∀ p ∈ news, p ∈ news') : TreeIn news' v t := by
  induction h with
  | leaf hm => exact .leaf (hs _ hm)
  | node hm _ _ il ir => exact .node (hs _ hm) il ir
inductive TreesIn (news : List (Addr × Obj)) : List Value → List Tr → Prop where
  | nil : TreesIn news [] []
  | cons {v : Value} {vs : List Value} {t : Tr} {ts : List Tr} : TreeIn news v t → TreesIn news vs ts → TreesIn news (v :: vs) (t :: ts)
theorem TreesIn.mono {news news' : List (Addr × Obj)} {vs : List Value} {ts : List Tr} (h : TreesIn news vs ts) (hs : ∀ p ∈ news, p ∈ news') : TreesIn news' vs ts := by
  induction h with
  | nil => exact .nil
  | cons h _ ih => exact .cons (h.mono hs) ih
theorem TreesIn.append {news : List (Addr × Obj)} {vs ws : List Value} {ts us : List Tr} (h : TreesIn news vs ts) (k : TreesIn news ws us) : TreesIn news (vs ++ ws) (ts ++ us) := by
  induction h with
  | nil => exact k
  | cons h _ ih => exact .cons h ih
theorem TreesIn.length {news : List (Addr × Obj)} {vs : List Value} {ts : List Tr} (h : TreesIn news vs ts) : vs.length = ts.length := by
  induction h with
  | nil => rfl
  | cons _ _ ih => simp [ih]
/-- what a contract's datum says of a tree -/
noncomputable abbrev RelT (news : List (Addr × Obj)) (vs : List Value) (d : Tr) : Prop := ∃ v, vs = [v] ∧ TreeIn news v d
noncomputable abbrev needT : ToldN Tr where
  Rel := RelT
  Ok := fun _ => True
  size := Tr.size
  Tl := fun tl => tl = []
  Out := fun _ r d => ∃ tk, r = .int d.need tk
theorem strsAre_append : ∀ {vs ws : List Value} {xs ys : List Str}, StrsAre vs xs → StrsAre ws ys → StrsAre (vs ++ ws) (xs ++ ys)
  | _, _, _, _, .nil, h => h
  | _, _, _, _, .cons x t r, h => .cons x t (strsAre_append r h)
theorem strsAre_length {vs : List Value} {xs : List Str} (h : StrsAre vs xs) : vs.length = xs.length := by
  induction h with
  | nil => rfl
  | cons _ _ _ ih => simp [ih]
theorem strs_len2 {vs ws : List Value} {xs ys : List Str} {n : Nat} (h : StrsAre vs xs) (k : StrsAre ws ys) (e : xs.length + ys.length ≤ n) : vs.length + ws.length ≤ n := by
  rw [strsAre_length h, strsAre_length k]; exact e
theorem Tr.names_length : ∀ t : Tr, t.names.length ≤ t.size
  | .leaf _ => Nat.le_refl _
  | .node _ l r => by
    have h1 := l.names_length
    have h2 := r.names_length
    simp only [Tr.names, Tr.size, List.length_append]
    omega
noncomputable abbrev namesT : ToldN Tr where
  Rel := RelT
  Ok := fun d => d.size < 100
  size := Tr.size
  Tl := fun _ => True
  Out := fun news r d => ∃ a vs n, r = .ref a ∧ (a, listOf (List.toArray vs) n) ∈ news ∧ StrsAre vs d.names
noncomputable abbrev strT : ToldN Tr where
  Rel := RelT
  Ok := fun d => d.size < 100
  size := Tr.size
  Tl := fun _ => True
  Out := fun news r d => ∃ a v tk n, r = .ref a ∧ (a, tupO [.int d.st.1 tk, v] n) ∈ news ∧ TreeIn news v d.st.2
section
variable {prog : Program} {w : World} {A : Around} {E : Value → Shared → Prop} {s : Shared} {h₀ : Heap} {L : Addr} {m : Str → Option Value} {news : List (Addr × Obj)}
theorem listAt {l : Addr} {vs : List Value} {n : Nat} {h : Heap} (N : News h₀ L h news) (hm : (l, listOf vs.toArray n) ∈ news) : h.IsList l vs.toArray := ⟨_, (N _ hm).1, rfl, n, rfl⟩
theorem add_L {l b : Addr} {vs ws : List Value} {n k : Nat} {Q : Value → Shared → Prop} (F : Fr h₀ L s.heap m) (N : News h₀ L s.heap news) (hl : (l, listOf vs.toArray n) ∈ news) (hb : (b, listOf ws.toArray k) ∈ news)
    (h : ∀ D h', Fr h₀ L h' m → News h₀ L h' ((D, listOf (vs ++ ws).toArray 0) :: news) → (∀ p ∈ news, p.1 < D) → Q (.ref D) { s with heap := h' })
    (hsz : vs.length + ws.length ≤ sizeLine) : wpAny (model prog w) A (binaryOp .Add (.ref l) (.ref b)) Q E s :=
  add_lists F N (listAt N hl) (listAt N hb) (fun h' F' N' => h _ h' F' N' fun p hp => Heap.lt_size (N p hp).1) hsz
end
set_option maxHeartbeats 4000000 in
theorem need_ {w : World} {mg mb : Str → Option Value} {mean : ExcName → Option Value} : ∀ d, TellsN pw w (K w.params) V lw mean mg mb 427 needT d := by
  refine tellsN_of fun d IH => ?_
  unfold TellsN
  intro dp un gd cn cs a ccd cl outer A₀ base h₀ L m news s vs Q E B F X N T hk hR hok hd hu hret
  obtain ⟨v, rfl, hR⟩ := hR
  k_with_none
  k_with "my call" => k_dflt (
    (with_reducible show wpAny _ _ (call (Value.ref 427) [_]) _ _ _)
    refine' tellsN_use ?k1 ?k2 ?k3 ?k4 ?k5 ?kK ?kR (IH _ ?klt) trivial ?kd ?ku ?_
    (case k1 => k_asm)
    (case k2 => k_asm)
    (case k3 => k_asm)
    (case k4 => k_asm)
    (case k5 => k_asm)
    (case kK => first | exact rfl | assumption)
    (case kR => exact ⟨_, rfl, by assumption⟩)
    (case klt => (simp only [needT, Tr.size]; omega))
    (case kd => (simp only [needT, Tr.size] at *; ktr_room))
    (case ku => (simp only [needT, Tr.size] at *; ktr_units))
    intro r9 tl9 h9 tk9 F9 N9 hl9 ht9 ho9
    obtain ⟨t9, rfl⟩ := ho9
    obtain rfl := ht9
    simp only [List.append_nil] at N9
    try k_fold)
  cases hR
  · refine wpAny_call ?_
    k_dflt ktr_enter
    k_steps
    exact hret _ _ _ _ (by k_asm) (ktn_tl0 (by k_asm)) ktn_ord0 rfl ⟨_, rfl⟩
  · refine wpAny_call ?_
    k_dflt ktr_enter
    k_steps
    exact hret _ _ _ _ (by k_asm) (ktn_tl0 (by k_asm)) ktn_ord0 rfl ⟨_, rfl⟩
set_option maxHeartbeats 4000000 in
theorem names_ {w : World} {mg mb : Str → Option Value} {mean : ExcName → Option Value} : ∀ d, TellsN pw w (K w.params) V lw mean mg mb 441 namesT d := by
  refine tellsN_of fun d IH => ?_
  unfold TellsN
  intro dp un gd cn cs a ccd cl outer A₀ base h₀ L m news s vs Q E B F X N T hk hR hok hd hu hret
  obtain ⟨v, rfl, hR⟩ := hR
  k_with_none
  k_with "my call" => k_dflt (
    (with_reducible show wpAny _ _ (call (Value.ref 441) [_]) _ _ _)
    refine' tellsN_use ?k1 ?k2 ?k3 ?k4 ?k5 ?kK ?kR (IH _ ?klt) ?ko ?kd ?ku ?_
    (case k1 => k_asm)
    (case k2 => k_asm)
    (case k3 => k_asm)
    (case k4 => k_asm)
    (case k5 => k_asm)
    (case kK => first | exact rfl | assumption)
    (case kR => first | exact ⟨_, rfl, by assumption⟩ | exact ⟨_, rfl, TreeIn.mono (by assumption) ktn_subA⟩)
    (case klt => (simp only [namesT, Tr.size]; omega))
    (case ko => (simp only [namesT, Tr.size] at *; omega))
    (case kd => (simp only [namesT, Tr.size] at *; ktr_room))
    (case ku => (simp only [namesT, Tr.size] at *; ktr_units))
    intro r9 tl9 h9 tk9 F9 N9 hl9 ht9 ho9
    obtain ⟨a9, vs9, n9, rfl, hm9, hs9⟩ := ho9
    (try simp only [List.append_assoc] at N9 hm9)
    try k_fold)
  cases hR
  · refine wpAny_call ?_
    k_dflt ktr_enter
    k_steps
    refine hret _ _ _ _ (by k_asm) (ktn_tl1 (by k_asm)) (by ktn_ord) trivial ⟨_, _, _, rfl, ktn_new, .cons _ _ .nil⟩
  · rename_i tl0 tr0 _ _ _ _
    refine wpAny_call ?_
    k_dflt ktr_enter
    k_with "my add" => k_dflt (
      refine' add_L ?k1 ?k2 ?k3 ?k4 ?_ ?kz
      (case k1 => k_asm)
      (case k2 => k_asm)
      (case k3 => first | assumption | (exact ktn_subC _ (by assumption)))
      (case k4 => assumption)
      (case kz => (refine strs_len2 (by assumption) (by assumption) ?_; have q1 := Tr.names_length tl0; have q2 := Tr.names_length tr0; simp only [Tr.size] at hok; simp only [sizeLine_eq]; omega))
      intro D' h' F' N' l1)
    k_steps
    refine hret _ _ _ _ (by k_asm) (ktn_tl2 (by k_asm)) (by ktn_ord) trivial ⟨_, _, _, rfl, ktn_new, ?_⟩
    exact strsAre_append (by assumption) (by assumption)
end

section
section
theorem st_a {sg : Str} {l r : Tr} (h : l.st.1 < r.st.1) (k : r.st.1 = l.st.1) : (Tr.node sg l r).st = (r.st.1 + 1, .node sg r.st.2 l.st.2) := by
  simp only [Tr.st, if_pos h, if_pos k]
theorem st_b {sg : Str} {l r : Tr} (h : l.st.1 < r.st.1) (k : ¬ r.st.1 = l.st.1) : (Tr.node sg l r).st = (r.st.1, .node sg r.st.2 l.st.2) := by
  simp only [Tr.st, if_pos h, if_neg k]
theorem st_c {sg : Str} {l r : Tr} (h : ¬ l.st.1 < r.st.1) (k : l.st.1 = r.st.1) : (Tr.node sg l r).st = (l.st.1 + 1, .node sg l.st.2 r.st.2) := by
  simp only [Tr.st, if_neg h, if_pos k]
theorem st_d {sg : Str} {l r : Tr} (h : ¬ l.st.1 < r.st.1) (k : ¬ l.st.1 = r.st.1) : (Tr.node sg l r).st = (l.st.1, .node sg l.st.2 r.st.2) := by
  simp only [Tr.st, if_neg h, if_neg k]
theorem str_out {news : List (Addr × Obj)} {a : Addr} {v : Value} {tk : Tok} {n : Nat} {d : Tr} {p : Int × Tr} (e : d.st = p) (hm : (a, tupO [.int p.1 tk, v] n) ∈ news) (ht : TreeIn news v p.2) : strT.Out news (.ref a) d :=
  ⟨a, v, tk, n, rfl, by rw [e]; exact hm, by rw [e]; exact ht⟩
set_option maxHeartbeats 4000000 in
theorem str_ {w : World} {mg mb : Str → Option Value} {mean : ExcName → Option Value} : ∀ d, TellsN pw w (K w.params) V lw mean mg mb 434 strT d := by
  refine tellsN_of fun d IH => ?_
  unfold TellsN
  intro dp un gd cn cs a ccd cl outer A₀ base h₀ L m news s vs Q E B F X N T hk hR hok hd hu hret
  obtain ⟨v, rfl, hR⟩ := hR
  k_with_none
  k_with "my call" => k_dflt (
    (with_reducible show wpAny _ _ (call (Value.ref 434) [_]) _ _ _)
    refine' tellsN_use ?k1 ?k2 ?k3 ?k4 ?k5 ?kK ?kR (IH _ ?klt) ?ko ?kd ?ku ?_
    (case k1 => k_asm)
    (case k2 => k_asm)
    (case k3 => k_asm)
    (case k4 => k_asm)
    (case k5 => k_asm)
    (case kK => first | exact rfl | assumption)
    (case kR => first | exact ⟨_, rfl, by assumption⟩ | exact ⟨_, rfl, TreeIn.mono (by assumption) ktn_subA⟩)
    (case klt => (simp only [Tr.size]; omega))
    (case ko => (simp only [strT, Tr.size] at *; omega))
    (case kd => (simp only [strT, Tr.size] at *; ktr_room))
    (case ku => (simp only [strT, Tr.size] at *; ktr_units))
    intro r9 tl9 h9 tk9 F9 N9 hl9 ht9 ho9
    obtain ⟨a9, v9, t9, n9, rfl, hm9, hs9⟩ := ho9
    (try simp only [List.append_assoc] at N9 hm9)
    try k_fold)
  cases hR
  · refine wpAny_call ?_
    k_dflt ktr_enter
    k_steps
    refine hret _ _ _ _ (by k_asm) (ktn_tl1 (by k_asm)) (by ktn_ord) trivial ⟨_, _, _, _, rfl, ktn_new, ?_⟩
    exact TreeIn.mono (TreeIn.leaf (by assumption)) ktn_subA
  · rename_i sg0 _ _ tl0 tr0 _ _ _ _
    refine wpAny_call ?_
    k_dflt ktr_enter
    k_steps
    all_goals (
      first
        | (have e := st_a (sg := sg0) (l := tl0) (r := tr0) (by assumption) (by assumption))
        | (have e := st_b (sg := sg0) (l := tl0) (r := tr0) (by assumption) (by omega))
        | (have e := st_c (sg := sg0) (l := tl0) (r := tr0) (by omega) (by assumption))
        | (have e := st_d (sg := sg0) (l := tl0) (r := tr0) (by omega) (by omega))
      rename_i kF kN _ _
      first
        | (have N5 := tlN (news := news) [_, _, _, _] kN)
        | (have N5 := tlN (news := news) [_, _, _] kN)
      refine hret _ _ _ _ kF N5 ?_ trivial (str_out e (List.mem_append.mpr (.inr (.head _))) (TreeIn.node (List.mem_append.mpr (.inr (.tail _ (.head _)))) ?_ ?_))
      · simp only [List.cons_append, List.nil_append]; first | exact (ord2 (by ktn_lt) (ord2 (by ktn_lt) (ord2 (by ktn_lt) (ord2 (by ktn_lt) (ktn_ordA (by assumption) (by assumption)))))) | exact (ord2 (by ktn_lt) (ord2 (by ktn_lt) (ord2 (by ktn_lt) (ktn_ordA (by assumption) (by assumption)))))
      · first | exact TreeIn.mono (by assumption) subPB | exact TreeIn.mono (by assumption) subPA
      · first | exact TreeIn.mono (by assumption) subPB | exact TreeIn.mono (by assumption) subPA)
end
end

section
section
theorem pairs_length (sg : Str) (l : Tr) : ∀ rs : List Tr, (Tr.pairs sg l rs).length = 2 * rs.length
  | [] => rfl
  | r :: rs => by simp only [Tr.pairs, List.length_cons, pairs_length sg l rs]; omega
theorem cross_length (sg : Str) (rs : List Tr) : ∀ ls : List Tr, (Tr.cross sg rs ls).length = 2 * rs.length * ls.length
  | [] => by simp [Tr.cross]
  | l :: ls => by simp only [Tr.cross, List.length_append, List.length_cons, pairs_length, cross_length sg rs ls, Nat.mul_add]; omega
theorem exch_length : ∀ t : Tr, t.exch.length ≤ 2 ^ t.size
  | .leaf _ => by simp [Tr.exch, Tr.size]
  | .node sg l r => by
    have h1 := exch_length l
    have h2 := exch_length r
    simp only [Tr.exch, cross_length, Tr.size]
    rw [Nat.pow_succ, Nat.pow_add]
    have h3 : r.exch.length * l.exch.length ≤ 2 ^ l.size * 2 ^ r.size := by rw [Nat.mul_comm]; exact Nat.mul_le_mul h1 h2
    have h4 : 2 * r.exch.length * l.exch.length = 2 * (r.exch.length * l.exch.length) := Nat.mul_assoc ..
    omega
theorem TreeIn.tup {news : List (Addr × Obj)} {v : Value} {t : Tr} (h : TreeIn news v t) {news' : List (Addr × Obj)} (k : ∀ a o, (a, o) ∈ news → o.cls = .type "tuple" → (a, o) ∈ news') : TreeIn news' v t := by
  induction h with
  | leaf hm => exact .leaf (k _ _ hm rfl)
  | node hm _ _ il ir => exact .node (k _ _ hm rfl) il ir
theorem TreesIn.tup {news : List (Addr × Obj)} {vs : List Value} {ts : List Tr} (h : TreesIn news vs ts) {news' : List (Addr × Obj)} (k : ∀ a o, (a, o) ∈ news → o.cls = .type "tuple" → (a, o) ∈ news') : TreesIn news' vs ts := by
  induction h with
  | nil => exact .nil
  | cons h _ ih => exact .cons (h.tup k) ih
/-- tuples stay where an object of another class is left out -/
theorem tup_offA {h₀ h : Heap} {L I : Addr} {news : List (Addr × Obj)} {it : Obj} (N : News h₀ L h news) (hI : (I, it) ∈ news) (hc : it.cls ≠ .type "tuple") : ∀ a o, (a, o) ∈ news → o.cls = .type "tuple" → (a, o) ∈ offA I news :=
  fun _ _ hm ho => mem_offA hm (news_ne N hm hI (by rw [ho]; exact Ne.symm hc))
noncomputable abbrev exchT : Con Tr where
  Rel := fun news vs d => ∃ v, vs = [v] ∧ TreeIn news v d ∧ d.size ≤ 20
  size := Tr.size
  Out := fun news news' r d => (∀ p ∈ news, p ∈ news') ∧ ∃ a vs n, r = .ref a ∧ (a, listOf (List.toArray vs) n) ∈ news' ∧ TreesIn news' vs d.exch ∧ ∀ q ∈ news, q.1 < a
set_option maxHeartbeats 4000000 in
theorem exch_ {w : World} {mg mb : Str → Option Value} {mean : ExcName → Option Value} : ∀ d, Keeps pw w (K w.params) V lw mean mg mb 420 exchT d := by
  refine keeps_of fun d IH => ?_
  unfold Keeps
  intro dp un gd cn cs a ccd cl outer A₀ base h₀ L m news s vs Q E B F X N T hk hR hd hu hret
  obtain ⟨v, rfl, hR, hok⟩ := hR
  k_with_none
  k_with "my call" => k_dflt (
    (with_reducible show wpAny _ _ (call (Value.ref 420) [_]) _ _ _)
    refine' keeps_use ?k1 ?k2 ?k3 ?k4 ?k5 ?kK ?kR (IH _ ?klt) ?kd ?ku ?_
    (case k1 => k_asm)
    (case k2 => k_asm)
    (case k3 => k_asm)
    (case k4 => k_asm)
    (case k5 => k_asm)
    (case kK => first | exact rfl | assumption)
    (case kR => first | exact ⟨_, rfl, by assumption, by simp only [Tr.size] at hok; omega⟩ | exact ⟨_, rfl, TreeIn.mono (by assumption) (fun _ h => List.mem_cons_of_mem _ h), by simp only [Tr.size] at hok; omega⟩)
    (case klt => (simp only [Tr.size]; omega))
    (case kd => (simp only [exchT, Tr.size] at *; ktr_room))
    (case ku => (simp only [exchT, Tr.size] at *; ktr_units))
    intro r9 news9 h9 tk9 F9 N9 ho9
    obtain ⟨hs9, a9, vs9, n9, rfl, hm9, ht9, hf9⟩ := ho9
    try k_fold)
  k_with "my iter" => (
    k_here
    k_dflt (
      refine' iter_L rfl ?k1 ?k2 ?k3 ?_
      (case k1 => k_asm)
      (case k2 => k_asm)
      (case k3 => assumption)
      intro I' l1))
  cases hR
  · refine wpAny_call ?_
    k_dflt ktr_enter
    k_steps
    refine hret _ _ _ _ (by k_asm) (by k_asm) ⟨fun _ h => List.mem_cons_of_mem _ h, _, _, _, rfl, List.mem_cons_self .., .cons (TreeIn.mono (TreeIn.leaf (by assumption)) fun _ h => List.mem_cons_of_mem _ h) .nil, by assumption⟩
  · rename_i a0 t01 t02 sg0 vl0 vr0 tl0 tr0 n0 hm0 hl0 hr0
    have hlen := exch_length (.node sg0 tl0 tr0)
    have hle : 2 ^ (Tr.node sg0 tl0 tr0).size ≤ 2 ^ 20 := Nat.pow_le_pow_right (by decide) hok
    refine wpAny_call ?_
    k_dflt ktr_enter
    k_steps
    rename_i lst0 _ l1' _ _ _
    refine listRest_ind (J := fun vs1 m1 nx => ∃ (u : Str → Option Value) (fa : Addr) (fs : List Value) (k : Nat) (ls acc : List Tr), m1 = (fun y => if y = Str.ofString "found" then some (.ref fa) else if y = Str.ofString "tree" then some (.ref a0) else u y) ∧ (fa, listOf (List.toArray fs) k) ∈ nx ∧ (∀ q ∈ news, q.1 < fa) ∧ TreesIn nx fs acc ∧ TreesIn nx vs1 ls ∧ acc ++ Tr.cross sg0 tr0.exch ls = Tr.cross sg0 tr0.exch tl0.exch ∧ (∀ p ∈ news9, p ∈ nx)) ?done ?turn _ _ _ ?start
    case start => exact ⟨_, _, _, _, _, [], canon2 rfl rfl, hs9 _ (List.mem_cons_self ..), by assumption, .nil, ht9, rfl, fun _ h => h⟩
    case done =>
      rintro m1 nx h tk ⟨u, fa, fs, k, ls, acc, rfl, hfa, hlt, hfs, hls, heq, hsub⟩ F1 N1
      cases hls
      simp only [Tr.cross, List.append_nil] at heq
      subst heq
      k_steps
      exact hret _ _ _ _ (by k_asm) (by k_asm) ⟨fun p hp => hsub _ (hs9 _ (List.mem_cons_of_mem _ hp)), _, _, _, rfl, hfa, hfs, hlt⟩
    case turn =>
      rintro v1 r1 m1 nx it h tk ⟨u, fa, fs, k, ls, acc, rfl, hfa, hlt, hfs, hls, heq, hsub⟩ hc1 F1 N1
      cases hls
      rename_i one1 ls1 hone hls1
      have hm1 : _ ∈ nx := hsub _ (hs9 _ (List.mem_cons_of_mem _ hm0))
      have hr1 := hr0.mono fun p hp => hsub p (hs9 _ (List.mem_cons_of_mem _ hp))
      have hsA := hs9
      have l1A := l1
      have hmA := hm9
      k_steps
      refine listRest_ind (J := fun vs2 m2 ny => ∃ (u : Str → Option Value) (fa : Addr) (fs : List Value) (k : Nat) (os acc2 : List Tr), m2 = (fun y => if y = Str.ofString "found" then some (.ref fa) else if y = Str.ofString "tree" then some (.ref a0) else if y = Str.ofString "one" then some v1 else u y) ∧ (fa, listOf (List.toArray fs) k) ∈ ny ∧ (∀ q ∈ news, q.1 < fa) ∧ TreesIn ny fs acc2 ∧ TreesIn ny vs2 os ∧ acc2 ++ Tr.pairs sg0 one1 os = acc ++ Tr.pairs sg0 one1 tr0.exch ∧ (∀ p ∈ news9, p ∈ ny)) ?done ?turn _ _ _ ?start
      case start => exact ⟨_, _, _, _, _, acc, canon3 rfl rfl rfl, hs9 _ (List.mem_cons_of_mem _ hfa), hlt, hfs.mono fun p hp => hs9 _ (List.mem_cons_of_mem _ hp), ht9, rfl, fun _ h => h⟩
      case done =>
        rintro m2 ny h2 tk2 ⟨u2, fa2, fs2, k2, os, acc2, rfl, hfa2, hlt2, hfs2, hos, heq2, hsub2⟩ F2 N2
        cases hos
        simp only [Tr.pairs, List.append_nil] at heq2
        subst heq2
        have hI := hsub2 _ (hs9 _ (List.mem_cons_self ..))
        have hup : ∀ p ∈ nx, p ∈ ny := fun p hp => hsub2 _ (hs9 _ (List.mem_cons_of_mem _ hp))
        have hct : it.cls ≠ .type "tuple" := by rw [hc1]; decide
        have hcl : (Value.type "list" : Value) ≠ it.cls := by rw [hc1]; decide
        have htup := tup_offA N2 hI hct
        k_steps
        refine unr_end (by k_asm) (by k_asm) hI ⟨mem_offA (hup _ (hsub _ hmA)) (Nat.ne_of_lt (l1A _ hmA)), _, _, _, _, ls1, _, canon2 rfl rfl, mem_offA hfa2 (news_ne N2 hfa2 hI hcl), hlt2, hfs2.tup htup, (hls1.mono hup).tup htup, ?_, fun p hp => mem_offA (hup _ (hsub _ hp)) (Nat.ne_of_lt (l1A _ hp))⟩
        rw [← heq, List.append_assoc]
        rfl
      case turn =>
        rintro v2 r2 m2 ny it2 h2 tk2 ⟨u2, fa2, fs2, k2, os, acc2, rfl, hfa2, hlt2, hfs2, hos, heq2, hsub2⟩ hc2 F2 N2
        cases hos
        rename_i other1 os1 hother hos1
        have hI := hsub2 _ (hs9 _ (List.mem_cons_self ..))
        have hup : ∀ p ∈ nx, p ∈ ny := fun p hp => hsub2 _ (hs9 _ (List.mem_cons_of_mem _ hp))
        have hm2 : _ ∈ ny := hup _ hm1
        have hone2 := hone.mono hup
        have l1B := l1
        have hmB := hm9
        have hb : fs2.length + 2 ≤ 1048576 := by
          have e1 := congrArg List.length heq2
          have e2 := congrArg List.length heq
          have e3 := hfs2.length
          simp only [Tr.pairs, Tr.cross, List.length_append, List.length_cons] at e1 e2
          simp only [Tr.exch] at hlen
          omega
        k_with "my add" => k_dflt (
          refine' add_L ?k1 ?k2 ?k3 ?k4 ?_ ?kz
          (case k1 => k_asm)
          (case k2 => k_asm)
          (case k3 => k_mem)
          (case k4 => k_mem)
          (case kz => (simp only [sizeLine_eq, List.length_cons, List.length_nil]; omega))
          intro D' h' F' N' l1)
        k_steps
        rename News _ _ _ _ => NN
        have hI2 := l1
        have hct : it2.cls ≠ .type "tuple" := by rw [hc2]; decide
        have hin := sub5 NN
        have hinv : ∀ p ∈ ny, p.1 < _ := fun p hp => l1 p (in4 p hp)
        have htup := tup_offA NN (by k_mem) hct
        refine unr_end (by k_asm) NN (by k_mem) ⟨mem_offA (hin _ (hsub2 _ hmB)) (Nat.ne_of_lt (l1B _ hmB)), _, _, _, _, os1, acc2 ++ [.node sg0 one1 other1, .node sg0 other1 one1], canon3 rfl rfl rfl, mem_offA (List.mem_cons_self ..) (Nat.ne_of_gt (l1 (I', it2) (by k_mem))), fun q hq => hinv _ (hup _ (hsub _ (hsA _ (List.mem_cons_of_mem _ hq)))), ?ts, (hos1.mono hin).tup htup, ?eq, fun p hp => mem_offA (hin _ (hsub2 _ hp)) (Nat.ne_of_lt (l1B _ hp))⟩
        case ts => exact TreesIn.tup ((hfs2.mono hin).append (.cons (TreeIn.node (by k_mem) (hone2.mono hin) (hother.mono hin)) (.cons (TreeIn.node (by k_mem) (hother.mono hin) (hone2.mono hin)) .nil))) htup
        case eq =>
          rw [← heq2, List.append_assoc]
          rfl
end
end

section
section
/-- an order: a name's worth onto the pile, or the two uppermost under a sign -/
inductive Od where
  | var (x : Str)
  | two (sg : Str)
noncomputable def Tr.rev : Tr → List Od
  | .leaf x => [.var x]
  | .node sg l r => .two sg :: (r.rev ++ l.rev)
noncomputable def Tr.ords : Tr → List Od
  | .leaf x => [.var x]
  | .node sg l r => l.ords ++ r.ords ++ [.two sg]
theorem Tr.rev_rev : ∀ t : Tr, t.rev.reverse = t.ords
  | .leaf _ => rfl
  | .node sg l r => by simp only [Tr.rev, Tr.ords, List.reverse_cons, List.reverse_append, l.rev_rev, r.rev_rev]
theorem Tr.rev_length : ∀ t : Tr, t.rev.length = t.size
  | .leaf _ => rfl
  | .node sg l r => by simp only [Tr.rev, Tr.size, List.length_cons, List.length_append, l.rev_length, r.rev_length]; omega
theorem Tr.ords_length (t : Tr) : t.ords.length = t.size := by rw [← t.rev_rev, List.length_reverse, t.rev_length]
noncomputable def todo (ts : List Tr) : List Od := ts.reverse.flatMap Tr.rev
theorem todo_snoc (ts : List Tr) (t : Tr) : todo (ts ++ [t]) = t.rev ++ todo ts := by simp [todo]
theorem todo_length (ts : List Tr) : (todo ts).length = (ts.map Tr.size).sum := by
  simp only [todo, List.length_flatMap, Tr.rev_length, List.map_reverse]
  exact List.sum_reverse _
theorem Tr.size_pos : ∀ t : Tr, 1 ≤ t.size
  | .leaf _ => Nat.le_refl _
  | .node _ _ _ => Nat.succ_le_succ (Nat.zero_le _)
theorem len_le_sum : ∀ ts : List Tr, ts.length ≤ (ts.map Tr.size).sum
  | [] => Nat.le_refl _
  | t :: ts => by
    have h1 := t.size_pos
    have h2 := len_le_sum ts
    simp only [List.length_cons, List.map_cons, List.sum_cons]
    omega
inductive OdIn (news : List (Addr × Obj)) : Value → Od → Prop where
  | var {a : Addr} {t1 t2 : Tok} {x : Str} {n : Nat} : (a, ({ cls := .type "tuple", data := .seq #[.str (Str.ofString "VAR") t1, .str x t2] n } : Obj)) ∈ news → OdIn news (.ref a) (.var x)
  | two {a : Addr} {t1 t2 : Tok} {x : Str} {n : Nat} : (a, ({ cls := .type "tuple", data := .seq #[.str (Str.ofString "TWO") t1, .str x t2] n } : Obj)) ∈ news → OdIn news (.ref a) (.two x)
theorem OdIn.tup {news : List (Addr × Obj)} {v : Value} {o : Od} (h : OdIn news v o) {news' : List (Addr × Obj)} (k : ∀ a o, (a, o) ∈ news → o.cls = .type "tuple" → (a, o) ∈ news') : OdIn news' v o := by
  cases h with
  | var hm => exact .var (k _ _ hm rfl)
  | two hm => exact .two (k _ _ hm rfl)
inductive OdsIn (news : List (Addr × Obj)) : List Value → List Od → Prop where
  | nil : OdsIn news [] []
  | cons {v : Value} {vs : List Value} {o : Od} {os : List Od} : OdIn news v o → OdsIn news vs os → OdsIn news (v :: vs) (o :: os)
theorem OdsIn.tup {news : List (Addr × Obj)} {vs : List Value} {os : List Od} (h : OdsIn news vs os) {news' : List (Addr × Obj)} (k : ∀ a o, (a, o) ∈ news → o.cls = .type "tuple" → (a, o) ∈ news') : OdsIn news' vs os := by
  induction h with
  | nil => exact .nil
  | cons h _ ih => exact .cons (h.tup k) ih
theorem OdsIn.mono {news news' : List (Addr × Obj)} {vs : List Value} {os : List Od} (h : OdsIn news vs os) (hs : ∀ p ∈ news, p ∈ news') : OdsIn news' vs os := h.tup fun _ _ hm _ => hs _ hm
theorem OdsIn.append {news : List (Addr × Obj)} {vs ws : List Value} {ts us : List Od} (h : OdsIn news vs ts) (k : OdsIn news ws us) : OdsIn news (vs ++ ws) (ts ++ us) := by
  induction h with
  | nil => exact k
  | cons h _ ih => exact .cons h ih
theorem OdsIn.reverse {news : List (Addr × Obj)} {vs : List Value} {os : List Od} (h : OdsIn news vs os) : OdsIn news vs.reverse os.reverse := by
  induction h with
  | nil => exact .nil
  | cons h _ ih => simp only [List.reverse_cons]; exact ih.append (.cons h .nil)
theorem OdsIn.length {news : List (Addr × Obj)} {vs : List Value} {os : List Od} (h : OdsIn news vs os) : vs.length = os.length := by
  induction h with
  | nil => rfl
  | cons _ _ ih => simp [ih]
theorem TreesIn.snoc {news : List (Addr × Obj)} {ts : List Tr} {t : Tr} {vs : List Value} (h : TreesIn news vs (ts ++ [t])) : ∃ us v, vs = us ++ [v] ∧ TreesIn news us ts ∧ TreeIn news v t := by
  induction ts generalizing vs with
  | nil =>
    cases h with
    | cons h1 h2 => cases h2; exact ⟨[], _, rfl, .nil, h1⟩
  | cons a r ih =>
    cases h with
    | cons h1 h2 =>
      obtain ⟨us, v, rfl, h3, h4⟩ := ih h2
      exact ⟨_ :: us, v, rfl, .cons h1 h3, h4⟩
noncomputable abbrev odT : Con Tr where
  Rel := fun news vs d => ∃ v t1 t2, vs = [v, .int 16 t1, .int 9 t2] ∧ TreeIn news v d ∧ d.size ≤ 20
  size := fun _ => 20
  Out := fun news news' r d => (∀ p ∈ news, p ∈ news') ∧ ∃ a vs n, r = .ref a ∧ (a, listOf (List.toArray vs) n) ∈ news' ∧ OdsIn news' vs d.ords ∧ ∀ q ∈ news, q.1 < a
noncomputable def odJ (d : Tr) (news : List (Addr × Obj)) (n : Nat) (m : Str → Option Value) (nx : List (Addr × Obj)) : Prop :=
  ∃ (u : Str → Option Value) (wa fa : Addr) (ws fs : List Value) (k1 k2 : Nat) (ts : List Tr) (os : List Od) (rest : List (Addr × Obj)),
    m = (fun y => if y = Str.ofString "found" then some (.ref fa) else if y = Str.ofString "waiting" then some (.ref wa) else u y) ∧ (∀ p ∈ (wa, listOf (List.toArray ws) k1) :: (fa, listOf (List.toArray fs) k2) :: rest, p ∈ nx) ∧ wa ≠ fa ∧ (∀ p ∈ rest, p.1 ≠ wa) ∧ (∀ p ∈ rest, p.1 ≠ fa) ∧ TreesIn rest ws ts ∧ OdsIn rest fs os ∧ os ++ todo ts = d.rev ∧ n = (ts.map Tr.size).sum ∧ (∀ p ∈ news, p ∈ rest) ∧ (∀ q ∈ news, q.1 < fa)
set_option maxHeartbeats 4000000 in
theorem orders_ {w : World} {mg mb : Str → Option Value} {mean : ExcName → Option Value} : ∀ d, Keeps pw w (K w.params) V lw mean mg mb 345 odT d := by
  intro d
  unfold Keeps
  intro dp un gd cn cs a ccd cl outer A₀ base h₀ L m news s vs Q E B F X N T hk hR hd hu hret
  obtain ⟨v, t1, t2, rfl, hR, hok⟩ := hR
  have hdl := d.rev_length
  k_with_none
  k_with "my while" => (
    k_here
    k_dflt (
      refine' While_inv2 (odJ d news) (n₀ := d.size) ?k1 ?k2 (wait ?start) (wait ?turn) ?hE
      (case k1 => k_asm)
      (case k2 => k_asm)
      (case hE => first | passes_own | with_unfolding_all passes_own)))
  refine wpAny_call ?_
  k_dflt ktr_enter
  k_steps
  case start =>
    rename_i fa0 _ lt1 wa0 _ lt2 _ _ _ _ _ _ _ _
    exact ⟨_, wa0, fa0, [v], [], _, _, [d], [], news, canon2 rfl rfl, in1, Nat.ne_of_gt lt2.1, fun p hp => Nat.ne_of_lt (ktn_ltOf lt2.2 p hp), fun p hp => Nat.ne_of_lt (lt1 p hp), .cons hR .nil, .nil, by simp [todo], by simp, fun _ h => h, lt1⟩
  case turn =>
    rintro n m₁ nx h tk F1 N0 ⟨u, wa, fa, ws, fs, k1, k2, ts, os, rest, rfl, hnx, hne, hrw, hrf, hws, hfs, heq, rfl, hsub, hlt⟩
    have N1 := newsSub N0 hnx
    clear N0 hnx
    replace hne := neN hne
    have e1 := congrArg List.length heq
    have e2 := hfs.length
    simp only [List.length_append] at e1
    rcases List.eq_nil_or_concat ts with rfl | ⟨ts, t, rfl⟩
    · cases hws
      have e3 : (todo []).length = 0 := rfl
      k_steps
      have e4 : os = d.rev := by simpa [todo] using heq
      subst e4
      have ho := (d.rev_rev ▸ hfs.reverse : OdsIn rest fs.reverse d.ords)
      exact hret _ _ _ _ (by k_asm) (by k_asm) ⟨fun p hp => in2 p (hsub p hp), _, _, _, rfl, .tail _ (.head _), ho.mono in2, hlt⟩
    · rw [List.concat_eq_append] at hws heq e1 ⊢
      obtain ⟨us, v0, rfl, hus, hv0⟩ := hws.snoc
      rw [todo_snoc] at heq e1
      have e3 := todo_length ts
      have e4 := len_le_sum ts
      have e5 := hus.length
      simp only [List.length_append] at e1
      clear hws
      have hlen : LenIs (us ++ [v0]) ((us.length : Int) + 1) := ⟨by simp, by omega⟩
      cases hv0 with
      | leaf hm =>
        rename_i aa _ _ x0 _
        simp only [Tr.rev, List.length_cons, List.length_nil] at e1 heq
        k_steps
        rename_i D1 _ ll _ FF NN
        generalize hq : (D1, (_ : Obj)) = q at NN
        refine while_end FF NN (n' := (ts.map Tr.size).sum) ?_ ⟨_, wa, fa, us, fs ++ [.ref D1], k1 + 1, k2 + 1, ts, os ++ [.var x0], q :: rest, canon2 rfl rfl, ?_, hne, ?_, ?_, hus.mono in1, (hfs.mono in1).append (.cons ?_ .nil), ?_, rfl, fun p hp => in1 p (hsub p hp), hlt⟩
        · simp only [List.map_append, List.sum_append, List.map_cons, List.sum_cons, Tr.size]; omega
        · intro p hp
          rcases List.mem_cons.mp hp with rfl | hp
          · exact .tail _ (.head _)
          rcases List.mem_cons.mp hp with rfl | hp
          · exact .tail _ (.tail _ (.head _))
          rcases List.mem_cons.mp hp with rfl | hp
          · exact .head _
          · exact in3 p hp
        · subst hq; exact List.forall_mem_cons.mpr ⟨Nat.ne_of_gt ll.1, hrw⟩
        · subst hq; exact List.forall_mem_cons.mpr ⟨Nat.ne_of_gt ll.2.1, hrf⟩
        · subst hq; exact .var (List.mem_cons_self ..)
        · simp only [List.append_assoc]; exact heq
      | node hm hl hr =>
        simp only [Tr.rev, List.length_cons, List.length_append, Tr.rev_length] at e1 heq
        rename_i aa _ _ sg0 vl vr l0 r0 _
        k_steps
        rename_i D1 _ ll1 _ _ _ _ _ _ FF NN
        generalize hq : (D1, (_ : Obj)) = q at NN
        refine while_end FF NN (n' := ((ts ++ [l0, r0]).map Tr.size).sum) ?_ ⟨_, wa, fa, us ++ [vl, vr], fs ++ [.ref D1], k1 + 1 + 1, k2 + 1, ts ++ [l0, r0], os ++ [.two sg0], q :: rest, canon2 rfl rfl, ?_, hne, ?_, ?_, (hus.mono in1).append (.cons (hl.mono in1) (.cons (hr.mono in1) .nil)), (hfs.mono in1).append (.cons ?_ .nil), ?_, rfl, fun p hp => in1 p (hsub p hp), hlt⟩
        · simp only [List.map_append, List.sum_append, List.map_cons, List.sum_cons, List.map_nil, List.sum_nil, Tr.size]; omega
        · intro p hp
          rcases List.mem_cons.mp hp with rfl | hp
          · exact .tail _ (.tail _ (.head _))
          rcases List.mem_cons.mp hp with rfl | hp
          · exact .tail _ (.tail _ (.tail _ (.head _)))
          rcases List.mem_cons.mp hp with rfl | hp
          · exact .tail _ (.head _)
          · exact in4 p hp
        · subst hq; exact List.forall_mem_cons.mpr ⟨Nat.ne_of_gt ll1.1, hrw⟩
        · subst hq; exact List.forall_mem_cons.mpr ⟨Nat.ne_of_gt ll1.2.1, hrf⟩
        · subst hq; exact .two (List.mem_cons_self ..)
        · rw [show ts ++ [l0, r0] = (ts ++ [l0]) ++ [r0] by simp, todo_snoc, todo_snoc]
          simp only [List.append_assoc, List.cons_append, List.nil_append] at heq ⊢
          exact heq
end
end

section
section
noncomputable def opv (sg : Str) (a b : Int) : Int := if sg = Str.ofString "*" then a * b else a + b
structure Rk where
  sg : Str
  a : Int
  b : Int
noncomputable def Sign (sg : Str) : Prop := sg = Str.ofString "+" ∨ sg = Str.ofString "*"
noncomputable abbrev rkT : Con Rk where
  Rel := fun _ vs d => ∃ t1 t2 t3 t4 t5, vs = [.str d.sg t1, .int d.a t2, .int d.b t3, .int 16 t4, .int 9 t5] ∧ Sign d.sg ∧ 1 ≤ d.a ∧ 1 ≤ d.b ∧ d.a ≤ 3125 ∧ d.b ≤ 3125 ∧ opv d.sg d.a d.b ≤ 3125
  size := fun _ => 20
  Out := fun news news' r d => (∀ p ∈ news, p ∈ news') ∧ ∃ tk, r = .int (opv d.sg d.a d.b) tk
noncomputable abbrev fitsT : Con Int where
  Rel := fun _ vs d => ∃ t1 t2, vs = [.int d t1, .int 16 t2] ∧ 1 ≤ d ∧ d ≤ 3125
  size := fun _ => 2
  Out := fun news news' r _ => news' = news ∧ r = .bool true
set_option maxHeartbeats 4000000 in
theorem fits_ {w : World} {mg mb : Str → Option Value} {mean : ExcName → Option Value} : ∀ d, Keeps pw w (K w.params) V lw mean mg mb 79 fitsT d := by
  intro x
  unfold Keeps
  intro dp un gd cn cs a ccd cl outer A₀ base h₀ L m news s vs Q E B F X N T hk hR hd hu hret
  obtain ⟨t1, t2, rfl, h1, h2⟩ := hR
  k_with_none
  refine wpAny_call ?_
  k_dflt ktr_enter
  have e : ((1 : Int) * 2 ^ ((16 : Int) - 1).toNat) = 32768 := by decide
  k_steps
  · rw [e, decide_eq_true (by omega)]
    exact hret _ _ _ _ (by k_asm) (by k_asm) ⟨rfl, rfl⟩
set_option maxHeartbeats 4000000 in
theorem reckoned_ {w : World} {mg mb : Str → Option Value} {mean : ExcName → Option Value} : ∀ d, Keeps pw w (K w.params) V lw mean mg mb 241 rkT d := by
  rintro ⟨sg, x, y⟩
  unfold Keeps
  intro dp un gd cn cs a ccd cl outer A₀ base h₀ L m news s vs Q E B F X N T hk hR hd hu hret
  obtain ⟨t1, t2, t3, t4, t5, rfl, hs, h1, h2, h3, h4, h5⟩ := hR
  dsimp only at hs h1 h2 h3 h4 h5
  k_with_none
  rcases hs with rfl | rfl
  · have e : opv (Str.ofString "+") x y = x + y := rfl
    rw [e] at h5
    k_with "my call" => k_dflt (
      (with_reducible show wpAny _ _ (call (Value.ref 79) [_, _]) _ _ _)
      refine' keeps_use ?k1 ?k2 ?k3 ?k4 ?k5 ?kK ?kR (fits_ (x + y)) ?kd ?ku ?_
      (case k1 => k_asm)
      (case k2 => k_asm)
      (case k3 => k_asm)
      (case k4 => k_asm)
      (case k5 => k_asm)
      (case kK => first | exact rfl | assumption)
      (case kR => exact ⟨_, _, rfl, by omega, by omega⟩)
      (case kd => (ktr_room))
      (case ku => (ktr_units))
      intro r9 news9 h9 tk9 F9 N9 ho9
      obtain ⟨rfl, rfl⟩ := ho9
      try k_fold)
    refine wpAny_call ?_
    k_dflt ktr_enter
    k_steps
    exact hret _ _ _ _ (by k_asm) (by k_asm) ⟨in1, _, congrArg (Value.int · _) e.symm⟩
  · have e : opv (Str.ofString "*") x y = x * y := rfl
    rw [e] at h5
    have h6 : 1 ≤ x * y := by
      have := Int.mul_le_mul h1 h2 (by decide) (by omega)
      simpa using this
    k_with "my call" => k_dflt (
      (with_reducible show wpAny _ _ (call (Value.ref 79) [_, _]) _ _ _)
      refine' keeps_use ?k1 ?k2 ?k3 ?k4 ?k5 ?kK ?kR (fits_ (x * y)) ?kd ?ku ?_
      (case k1 => k_asm)
      (case k2 => k_asm)
      (case k3 => k_asm)
      (case k4 => k_asm)
      (case k5 => k_asm)
      (case kK => first | exact rfl | assumption)
      (case kR => exact ⟨_, _, rfl, by omega, by omega⟩)
      (case kd => (ktr_room))
      (case ku => (ktr_units))
      intro r9 news9 h9 tk9 F9 N9 ho9
      obtain ⟨rfl, rfl⟩ := ho9
      try k_fold)
    refine wpAny_call ?_
    k_dflt ktr_enter
    k_steps
    exact hret _ _ _ _ (by k_asm) (by k_asm) ⟨in1, _, congrArg (Value.int · _) e.symm⟩
end
end

section
section
/-- the greater of two, as the text's max has it -/
noncomputable def mx (a b : Int) : Int := if b > a then b else a
noncomputable def Tr.val (env : Str → Int) : Tr → Int
  | .leaf x => env x
  | .node sg l r => opv sg (l.val env) (r.val env)
noncomputable def Tr.good (env : Str → Int) : Tr → Prop
  | .leaf x => Nm x ∧ 1 ≤ env x ∧ env x ≤ 5
  | .node sg l r => l.good env ∧ r.good env ∧ Sign sg ∧ opv sg (l.val env) (r.val env) ≤ 3125
theorem Tr.val_pos (env : Str → Int) : ∀ t : Tr, t.good env → 1 ≤ t.val env ∧ t.val env ≤ 3125
  | .leaf x, h => ⟨h.2.1, by have := h.2.2; simp only [Tr.val]; omega⟩
  | .node sg l r, h => by
    have h1 := l.val_pos env h.1
    have h2 := r.val_pos env h.2.1
    refine ⟨?_, h.2.2.2⟩
    simp only [Tr.val]
    rcases h.2.2.1 with rfl | rfl
    · have e : opv (Str.ofString "+") (l.val env) (r.val env) = l.val env + r.val env := rfl
      rw [e]; omega
    · have e : opv (Str.ofString "*") (l.val env) (r.val env) = l.val env * r.val env := rfl
      rw [e]
      have := Int.mul_le_mul h1.1 h2.1 (by decide) (by omega)
      simpa using this
theorem Tr.need_pos : ∀ t : Tr, 1 ≤ t.need
  | .leaf _ => by simp [Tr.need]
  | .node _ l r => by
    have h1 := l.need_pos
    simp only [Tr.need]
    split <;> omega
inductive Run (env : Str → Int) : List Od → List Int → Int → List Int → Int → Prop
  | nil {p : List Int} {m : Int} : Run env [] p m p m
  | var {x : Str} {r : List Od} {p P : List Int} {m M : Int} : Nm x → Run env r (p ++ [env x]) (mx m (p.length + 1)) P M → Run env (.var x :: r) p m P M
  | two {sg : Str} {r : List Od} {p P : List Int} {m M a b : Int} : Sign sg → 1 ≤ a → 1 ≤ b → a ≤ 3125 → b ≤ 3125 → opv sg a b ≤ 3125 → Run env r (p ++ [opv sg a b]) (mx m (p.length + 1)) P M → Run env (.two sg :: r) (p ++ [a, b]) m P M
theorem run_tree (env : Str → Int) : ∀ (t : Tr) (r : List Od) (p P : List Int) (m M : Int), t.good env → Run env r (p ++ [t.val env]) (mx m (p.length + t.need)) P M → Run env (t.ords ++ r) p m P M
  | .leaf x, r, p, P, m, M, h, k => .var h.1 k
  | .node sg l r', r, p, P, m, M, h, k => by
    simp only [Tr.ords, List.append_assoc]
    refine run_tree env l _ _ _ _ _ h.1 (run_tree env r' _ _ _ _ _ h.2.1 ?_)
    have hl := l.val_pos env h.1
    have hr := r'.val_pos env h.2.1
    simp only [List.append_assoc, List.cons_append, List.nil_append]
    refine .two h.2.2.1 hl.1 hr.1 hl.2 hr.2 h.2.2.2 ?_
    have e : mx (mx (mx m (p.length + l.need)) (((p ++ [l.val env]).length : Int) + r'.need)) (p.length + 1) = mx m (p.length + (Tr.node sg l r').need) := by
      have h1 := l.need_pos
      have h2 := r'.need_pos
      simp only [mx, Tr.need, List.length_append, List.length_cons, List.length_nil]
      repeat' split
      all_goals omega
    rw [e]
    exact k
theorem run_done (env : Str → Int) (t : Tr) (h : t.good env) : Run env t.ords [] 0 [t.val env] t.need := by
  have k := run_tree env t [] [] [t.val env] 0 t.need h (by
    have h1 := t.need_pos
    have e : mx 0 (([] : List Int).length + t.need) = t.need := by
      simp only [mx, List.length_nil]
      split <;> omega
    rw [e]
    exact .nil)
  simpa using k
structure Dn where
  t : Tr
  env : Str → Int
noncomputable abbrev dnT (w : World) : Con Dn where
  Rel := fun news vs d => ∃ oa ovs n vd vo, vs = [.ref oa, .ref vd] ∧ (oa, listOf (List.toArray ovs) n) ∈ news ∧ OdsIn news ovs d.t.ords ∧ (vd, vo) ∈ news ∧ DictVals w vo d.env ∧ (vd == sysModules) = false ∧ d.t.good d.env ∧ d.t.size ≤ 20
  size := fun _ => 60
  Out := fun news news' r d => (∀ p ∈ news, p ∈ news') ∧ ∃ ra pa n t1 t2, r = .ref ra ∧ (ra, tupO [.ref pa, .int d.t.need t1] 0) ∈ news' ∧ (pa, listOf #[.int (d.t.val d.env) t2] n) ∈ news'
set_option maxHeartbeats 4000000 in
theorem done_ {w : World} {mg mb : Str → Option Value} {mean : ExcName → Option Value} : ∀ d, Keeps pw w (K w.params) V lw mean mg mb 448 (dnT w) d := by
  rintro ⟨t, env⟩
  unfold Keeps
  intro dp un gd cn cs a ccd cl outer A₀ base h₀ L m news s vs Q E B F X N T hk hR hd hu hret
  obtain ⟨oa, ovs, n0, vd, vo, rfl, hoa, hov, hvm, hdv, hvs, hgood, hsz⟩ := hR
  dsimp only at hov hdv hgood hsz
  have hrun := run_done env t hgood
  k_with_none
  k_with "my iter" => (
    k_here
    k_dflt (
      refine' iter_L rfl ?k1 ?k2 ?k3 ?_
      (case k1 => k_asm)
      (case k2 => k_asm)
      (case k3 => k_mem)
      intro I' l1))
  refine wpAny_call ?_
  k_dflt ktr_enter
  k_steps
  rename_i pa _ l1pa _ _ _ _ _ _ _ _
  have hol := t.ords_length
  refine listRest_ind (J := fun vs1 m1 nx => ∃ (u : Str → Option Value) (ps : List Value) (k : Nat) (most : Int) (tm : Tok) (os : List Od) (zs : List Int), m1 = (fun y => if y = Str.ofString "pile" then some (.ref pa) else if y = Str.ofString "most" then some (.int most tm) else if y = Str.ofString "values" then some (.ref vd) else u y) ∧ (pa, listOf (List.toArray ps) k) ∈ nx ∧ IntsAre ps zs ∧ OdsIn nx vs1 os ∧ Run env os zs most [t.val env] t.need ∧ (∀ p ∈ news, p ∈ nx) ∧ zs.length + os.length ≤ 20) ?done ?turn _ _ _ ?start
  case start => exact ⟨_, [], _, 0, _, _, [], canon3 rfl rfl rfl, .tail _ (.head _), .nil, hov.mono in2, hrun, in2, by simp only [List.length_nil]; omega⟩
  case done =>
    rintro m1 nx h tk ⟨u, ps, k, most, tm, os, zs, rfl, hpa, hps, hos, hr, hsub, hb⟩ F1 N1
    cases hos
    cases hr
    cases hps with
    | cons _ t2 h => ?_
    cases h
    k_steps
    exact hret _ _ _ _ (by k_asm) (by k_asm) ⟨fun p hp => in1 p (hsub p hp), _, _, _, _, _, rfl, .head _, .tail _ hpa⟩
  case turn =>
    rintro v1 r1 m1 nx it h tk ⟨u, ps, k, most, tm, os, zs, rfl, hpa, hps, hos, hr, hsub, hb⟩ hc1 F1 N0
    have hpl := hps.length
    have hpI : pa < I' := l1 _ (.tail _ (.head _))
    replace hpI := ltN hpI
    have N1 : News _ _ h ((I', it) :: (pa, listOf (List.toArray ps) k) :: offA pa nx) := newsSub N0 fun p hp => by
      rcases List.mem_cons.mp hp with rfl | hp
      · exact .head _
      rcases List.mem_cons.mp hp with rfl | hp
      · exact .tail _ hpa
      · exact .tail _ (offA_sub p hp)
    have hos' := hos.tup (tup_offA (fun p hp => N0 p (.tail _ hp)) hpa (show Value.type "list" ≠ _ by decide))
    have hsub' : ∀ p ∈ news, p ∈ offA pa nx := fun p hp => mem_offA (hsub p hp) (Nat.ne_of_lt (l1pa p hp))
    have hne := offA_ne (I := pa) (l := nx)
    have hvm' := hsub' _ hvm
    have hoa' := hsub' _ hoa
    clear N0 hos hsub hpa
    have hct : it.cls ≠ .type "tuple" := by rw [hc1]; decide
    generalize offA pa nx = rest at *
    cases hos' with
    | cons ho hos' => ?_
    cases hr with
    | var hx hr =>
      cases ho with
      | var hm => ?_
      have hlb : LenB ps ps.length := ⟨rfl, by simp only [List.length_cons] at hb; omega⟩
      simp only [List.length_cons] at hb
      rename_i os0 x0 _ _ _ _
      k_steps
      rename News _ _ _ _ => NN
      rw [← hpl] at hr
      have htup := tup_offA NN (.head _) hct
      refine unr_end (by k_asm) NN (.head _) ⟨mem_offA (in2 _ hoa') (Nat.ne_of_lt (l1 _ (in2 _ hoa))), _, _, _, mx most (ps.length + 1), _, os0, zs ++ [env x0], canon3 rfl rfl rfl, mem_offA (.tail _ (.head _)) (Nat.ne_of_lt hpI), hps.append (.cons _ _ .nil), (hos'.mono in2).tup htup, hr, fun p hp => mem_offA (in2 p (hsub' p hp)) (Nat.ne_of_lt (l1 p (in2 p hp))), by simp only [List.length_append, List.length_cons, List.length_nil]; omega⟩
    | two hsg ha1 hb1 ha2 hb2 hab hr =>
      cases ho with
      | two hm => ?_
      rename_i os0 sg0 p0 a0 b0 _ _ _ _
      rw [show p0 ++ [a0, b0] = (p0 ++ [a0]) ++ [b0] by simp] at hps
      obtain ⟨qs1, tb, rfl, hps1⟩ := ints_snoc hps
      obtain ⟨qs, ta, rfl, hps2⟩ := ints_snoc hps1
      clear hps hps1
      have hlb : LenB qs qs.length := ⟨rfl, by simp only [List.length_append, List.length_cons, List.length_nil] at hb hpl; omega⟩
      simp only [List.length_append, List.length_cons, List.length_nil] at hb hpl
      k_with "my call" => k_dflt (
        (with_reducible show wpAny _ _ (call (Value.ref 241) [_, _, _, _, _]) _ _ _)
        refine' keeps_use ?k1 ?k2 ?k3 ?k4 ?k5 ?kK ?kR (reckoned_ ⟨sg0, a0, b0⟩) ?kd ?ku ?_
        (case k1 => k_asm)
        (case k2 => k_asm)
        (case k3 => k_asm)
        (case k4 => k_asm)
        (case k5 => k_asm)
        (case kK => first | exact rfl | assumption)
        (case kR => exact ⟨_, _, _, _, _, rfl, hsg, ha1, hb1, ha2, hb2, hab⟩)
        (case kd => ktr_room)
        (case ku => ktr_units)
        intro r9 news9 h9 tk9 F9 N9 ho9
        obtain ⟨hs9, t9, rfl⟩ := ho9
        replace N9 := newsSub N9 hs9
        dsimp only
        try k_fold)
      k_steps
      rename News _ _ _ _ => NN
      have hpl2 : p0.length = qs.length := by omega
      rw [hpl2] at hr
      have htup := tup_offA NN (.head _) hct
      refine unr_end (by k_asm) NN (.head _) ⟨mem_offA (in2 _ hoa') (Nat.ne_of_lt (l1 _ (in2 _ hoa))), _, _, _, mx most (qs.length + 1), _, os0, p0 ++ [opv sg0 a0 b0], canon3 rfl rfl rfl, mem_offA (.tail _ (.head _)) (Nat.ne_of_lt hpI), hps2.append (.cons _ _ .nil), (hos'.mono in2).tup htup, hr, fun p hp => mem_offA (in2 p (hsub' p hp)) (Nat.ne_of_lt (l1 p (in2 p hp))), by simp only [List.length_append, List.length_cons, List.length_nil]; omega⟩
end
end

section
section
noncomputable abbrev wtT : Con Rk where
  Rel := fun _ vs d => ∃ t1 t2 t3 t4 t5, vs = [.str d.sg t1, .int d.a t2, .int d.b t3, .int 16 t4, .int 9 t5] ∧ Sign d.sg ∧ 1 ≤ d.a ∧ 1 ≤ d.b ∧ d.a ≤ 3125 ∧ d.b ≤ 3125 ∧ opv d.sg d.a d.b ≤ 3125
  size := fun _ => 40
  Out := fun news news' r d => (∀ p ∈ news, p ∈ news') ∧ ∃ tk, r = .int (opv d.sg d.a d.b) tk
set_option maxHeartbeats 4000000 in
theorem wtwo_ {w : World} {mg mb : Str → Option Value} {mean : ExcName → Option Value} : ∀ d, Keeps pw w (K w.params) V lw mean mg mb 304 wtT d := by
  rintro ⟨sg, x, y⟩
  unfold Keeps
  intro dp un gd cn cs a ccd cl outer A₀ base h₀ L m news s vs Q E B F X N T hk hR hd hu hret
  obtain ⟨t1, t2, t3, t4, t5, rfl, hs, h1, h2, h3, h4, h5⟩ := hR
  dsimp only at hs h1 h2 h3 h4 h5
  k_with_none
  k_with "my call" => k_dflt (
    (with_reducible show wpAny _ _ (call (Value.ref 241) [_, _, _, _, _]) _ _ _)
    refine' keeps_use ?k1 ?k2 ?k3 ?k4 ?k5 ?kK ?kR (reckoned_ ⟨sg, x, y⟩) ?kd ?ku ?_
    (case k1 => k_asm)
    (case k2 => k_asm)
    (case k3 => k_asm)
    (case k4 => k_asm)
    (case k5 => k_asm)
    (case kK => first | exact rfl | assumption)
    (case kR => exact ⟨_, _, _, _, _, rfl, hs, h1, h2, h3, h4, h5⟩)
    (case kd => ktr_room)
    (case ku => ktr_units)
    intro r9 news9 h9 tk9 F9 N9 ho9
    obtain ⟨hs9, t9, rfl⟩ := ho9
    replace N9 := newsSub N9 hs9
    dsimp only
    try k_fold)
  k_with "my acomp" => (
    k_here
    k_dflt (refine Assign_ListComp_W (F₀z := by k_asm) (by rfl) (by with_unfolding_all rfl) (by rfl) (by decide) (by rfl) (by decide) (by rfl) (by rfl) (by rfl) ?_))
  k_with "my src" => (
    k_here
    k_dflt (
      refine' blk_tuple rfl ?k1 ?k2 ?k3 ?k4 ?_
      (case k1 => k_asm)
      (case k2 => k_asm)
      (case k3 => k_mem)
      (case k4 => exact Nat.le_of_ble_eq_true rfl)
      intro g'
      lcg_lit))
  have hc1 : ([Str.ofString "=", Str.ofString "<>", Str.ofString "<", Str.ofString ">", Str.ofString "<=", Str.ofString ">="]).any (· == sg) = false := by rcases hs with rfl | rfl <;> decide
  have hc2 : ([Str.ofString "AND", Str.ofString "OR", Str.ofString "XOR", Str.ofString "EQV", Str.ofString "IMP"]).any (· == sg) = false := by rcases hs with rfl | rfl <;> decide
  refine wpAny_call ?_
  k_dflt ktr_enter
  k_steps
  exact hret _ _ _ _ (by k_asm) (by k_asm) ⟨in2, _, rfl⟩
end
end

section
section
local macro_rules | `(tactic| walk_at "subscriptTail Name Slice ref ref") => `(tactic| (k_here; (with_reducible show wpAny _ _ (subscriptTail _ (PySem.Expr.Slice _ _ none _) (Value.ref _) (Value.ref _)) _ _ _); k_dflt (refine' kmk_slice_lit ?F ?N ?l ?p ?q ?e ?_ ?s ?t ?z; (case F => k_asm); (case N => k_asm); (case l => first | exact listAt (by k_asm) (by k_mem)); (case p => kmk_part); (case q => kmk_part); (case e => first | exact pick_none (by first | omega | (simp only [List.length_append, List.length_cons, List.length_nil]; omega)) | exact pick_all (by first | omega | (simp only [List.length_append, List.length_cons, List.length_nil]; omega)) | exact pick_from (by first | omega | (simp only [List.length_append, List.length_cons, List.length_nil]; omega)) | exact pick_to (by first | omega | (simp only [List.length_append, List.length_cons, List.length_nil]; omega))); (case s => with_unfolding_all rfl); (case t => kmk_pure); (case z => (rw [sizeLine_eq]; (try simp only [List.size_toArray, List.length_append, List.length_cons, List.length_nil]); omega))); intro D' h' F' N' l1; (try k_lt l1); (try k_sweep)))
local macro_rules | `(tactic| walk_at "subscriptTail Name Constant ref int") => `(tactic| (k_here; (with_reducible show wpAny _ _ (subscriptTail _ _ (Value.ref _) (Value.int _ _)) _ _ _); k_dflt (refine' item_litK ?k1 ?k2 ?k3 ?k4 ?_ ?k6; (case k1 => exact listAt (by k_asm) (by k_mem)); (case k2 => decide); (case k3 => decide); (case k4 => rfl); (case k6 => with_unfolding_all rfl); k_whole)))
local macro_rules | `(tactic| walk_at "CompRest") => `(tactic| (with_unfolding_all first
  | (refine CompRest.succ ?_; intro v' I' oI' C' oC' D' m' h' tk' E' hv' hC' hx' F' N' off' ne'; clear ne'; (first | lcg_open hv' | (obtain ⟨t9', hv9'⟩ := hv'; subst hv9')))
  | refine CompRest.zero ?_))
local macro_rules | `(tactic| walk_at "FinE") => `(tactic| ((unfold FinE); intro D' h' tk' F' N' o1'; (try simp only [List.nil_append, List.cons_append] at N'); (try dsimp only)))
local macro_rules | `(tactic| k_ne) => `(tactic| first | exact off1_ne (by assumption) (by k_mem) | fail "my k_ne")
local macro_rules | `(tactic| walk_at "call type:reversed") => `(tactic| k_extra "my rev")
noncomputable abbrev Wk := Tr × Bool
noncomputable def cost : Wk → Nat
  | (t, false) => 2 * t.size
  | (_, true) => 1
noncomputable def costs (st : List Wk) : Nat := (st.map cost).sum
theorem cost_pos (k : Wk) : 1 ≤ cost k := by
  obtain ⟨t, b⟩ := k
  cases b with
  | true => exact Nat.le_refl _
  | false => have := t.size_pos; simp only [cost]; omega
theorem len_costs : ∀ st : List Wk, st.length ≤ costs st
  | [] => Nat.le_refl _
  | k :: st => by
    have h1 := cost_pos k
    have h2 := len_costs st
    simp only [costs, List.length_cons, List.map_cons, List.sum_cons] at h2 ⊢
    omega
theorem costs_cons (k : Wk) (st : List Wk) : costs (k :: st) = cost k + costs st := rfl
inductive Ev (env : Str → Int) : List Wk → List Int → List Str → List Int → List Str → Prop
  | nil {z : List Int} {n : List Str} : Ev env [] z n z n
  | leaf {x : Str} {st : List Wk} {z Z : List Int} {n N : List Str} : Nm x → Ev env st (z ++ [env x]) (n ++ [x]) Z N → Ev env ((.leaf x, false) :: st) z n Z N
  | node {sg : Str} {l r : Tr} {st : List Wk} {z Z : List Int} {n N : List Str} : Ev env ((l, false) :: (r, false) :: (.node sg l r, true) :: st) z n Z N → Ev env ((.node sg l r, false) :: st) z n Z N
  | ready {sg : Str} {l r : Tr} {st : List Wk} {a b : Int} {z Z : List Int} {n N : List Str} : Sign sg → 1 ≤ a → 1 ≤ b → a ≤ 3125 → b ≤ 3125 → opv sg a b ≤ 3125 → Ev env st (z ++ [opv sg a b]) n Z N → Ev env ((.node sg l r, true) :: st) (z ++ [a, b]) n Z N
theorem ev_tree (env : Str → Int) : ∀ (t : Tr) (st : List Wk) (z Z : List Int) (n N : List Str), t.good env → Ev env st (z ++ [t.val env]) (n ++ t.names) Z N → Ev env ((t, false) :: st) z n Z N
  | .leaf x, st, z, Z, n, N, h, k => .leaf h.1 k
  | .node sg l r, st, z, Z, n, N, h, k => by
    have hl := l.val_pos env h.1
    have hr := r.val_pos env h.2.1
    refine .node (ev_tree env l _ _ _ _ _ h.1 (ev_tree env r _ _ _ _ _ h.2.1 ?_))
    simp only [List.append_assoc, List.cons_append, List.nil_append]
    refine .ready h.2.2.1 hl.1 hr.1 hl.2 hr.2 h.2.2.2 ?_
    exact k
inductive WkIn (news : List (Addr × Obj)) : Value → Wk → Prop where
  | mk {a : Addr} {v : Value} {t : Tr} {b : Bool} {n : Nat} : (a, ({ cls := .type "tuple", data := .seq #[v, .bool b] n } : Obj)) ∈ news → TreeIn news v t → WkIn news (.ref a) (t, b)
theorem WkIn.tup {news : List (Addr × Obj)} {v : Value} {o : Wk} (h : WkIn news v o) {news' : List (Addr × Obj)} (k : ∀ a o, (a, o) ∈ news → o.cls = .type "tuple" → (a, o) ∈ news') : WkIn news' v o := by
  cases h with
  | mk hm ht => exact .mk (k _ _ hm rfl) (ht.tup k)
inductive WksIn (news : List (Addr × Obj)) : List Value → List Wk → Prop where
  | nil : WksIn news [] []
  | cons {v : Value} {vs : List Value} {o : Wk} {os : List Wk} : WkIn news v o → WksIn news vs os → WksIn news (v :: vs) (o :: os)
theorem WksIn.tup {news : List (Addr × Obj)} {vs : List Value} {os : List Wk} (h : WksIn news vs os) {news' : List (Addr × Obj)} (k : ∀ a o, (a, o) ∈ news → o.cls = .type "tuple" → (a, o) ∈ news') : WksIn news' vs os := by
  induction h with
  | nil => exact .nil
  | cons h _ ih => exact .cons (h.tup k) ih
theorem WksIn.mono {news news' : List (Addr × Obj)} {vs : List Value} {os : List Wk} (h : WksIn news vs os) (hs : ∀ p ∈ news, p ∈ news') : WksIn news' vs os := h.tup fun _ _ hm _ => hs _ hm
theorem WksIn.append {news : List (Addr × Obj)} {vs ws : List Value} {ts us : List Wk} (h : WksIn news vs ts) (k : WksIn news ws us) : WksIn news (vs ++ ws) (ts ++ us) := by
  induction h with
  | nil => exact k
  | cons h _ ih => exact .cons h ih
theorem WksIn.length {news : List (Addr × Obj)} {vs : List Value} {os : List Wk} (h : WksIn news vs os) : vs.length = os.length := by
  induction h with
  | nil => rfl
  | cons _ _ ih => simp [ih]
theorem WksIn.snoc {news : List (Addr × Obj)} {ts : List Wk} {t : Wk} {vs : List Value} (h : WksIn news vs (ts ++ [t])) : ∃ us v, vs = us ++ [v] ∧ WksIn news us ts ∧ WkIn news v t := by
  induction ts generalizing vs with
  | nil =>
    cases h with
    | cons h1 h2 => cases h2; exact ⟨[], _, rfl, .nil, h1⟩
  | cons a r ih =>
    cases h with
    | cons h1 h2 =>
      obtain ⟨us, v, rfl, h3, h4⟩ := ih h2
      exact ⟨_ :: us, v, rfl, .cons h1 h3, h4⟩
noncomputable def wrJ (env : Str → Int) (Z : List Int) (NN : List Str) (qa hx : Addr) (base : List (Addr × Obj)) (n : Nat) (m : Str → Option Value) (nx : List (Addr × Obj)) : Prop :=
  ∃ (u : Str → Option Value) (wa va : Addr) (ws vs as : List Value) (k1 k2 k3 : Nat) (st : List Wk) (zs : List Int) (ns : List Str),
    m = (fun y => if y = Str.ofString "waiting" then some (.ref wa) else if y = Str.ofString "values" then some (.ref va) else if y = Str.ofString "hooks" then some (.ref hx) else u y) ∧
    (wa, listOf (List.toArray ws) k1) ∈ nx ∧ (qa, listOf (List.toArray as) k2) ∈ nx ∧ (va, listOf (List.toArray vs) k3) ∈ nx ∧ wa ≠ qa ∧ va ≠ wa ∧ va ≠ qa ∧ WksIn nx ws st.reverse ∧ IntsAre vs zs ∧ StrsAre as ns ∧ Ev env st zs ns Z NN ∧
    (∀ p ∈ base, p ∈ nx) ∧ (∀ p ∈ base, p.1 ≠ wa) ∧ n = costs st ∧ zs.length + costs st ≤ 100 ∧ ns.length + costs st ≤ 100
structure Wr where
  t : Tr
  env : Str → Int
  qa : Addr
noncomputable abbrev wrT (w : World) : Con Wr where
  Rel := fun news vs d => ∃ v hx hdx vd vo n k t1 t2 t3 t4 t5 t6 g1 g2 g3 g4, vs = [v, .ref hx] ∧ TreeIn news v d.t ∧ d.t.size ≤ 20 ∧ d.t.good d.env ∧ (hx, instObj 397 hdx) ∈ news ∧
    (hdx, dictOf [⟨g1, .str (Str.ofString "values") t1, .ref vd⟩, ⟨g2, .str (Str.ofString "bits") t2, .int 16 t3⟩, ⟨g3, .str (Str.ofString "digits") t4, .int 9 t5⟩, ⟨g4, .str (Str.ofString "asked") t6, .ref d.qa⟩] n) ∈ news ∧
    (vd, vo) ∈ news ∧ DictVals w vo d.env ∧ (vd == sysModules) = false ∧ (d.qa, listOf #[] k) ∈ news
  size := fun _ => 100
  Out := fun news news' r d => (∀ p ∈ news, p.1 ≠ d.qa → p ∈ news') ∧ ∃ xs n tk, r = .int (d.t.val d.env) tk ∧ (d.qa, listOf (List.toArray xs) n) ∈ news' ∧ StrsAre xs d.t.names
set_option maxHeartbeats 40000000 in
theorem worth_ {w : World} {mg mb : Str → Option Value} {mean : ExcName → Option Value} : ∀ d, Keeps pw w (K w.params) V lw mean mg mb 330 (wrT w) d := by
  rintro ⟨t, env, qa⟩
  unfold Keeps
  intro dp un gd cn cs a ccd cl outer A₀ base h₀ L m news s vs Q E B F X N T hk hR hd hu hret
  obtain ⟨v, hx, hdx, vd, vo, n0, k0, t1, t2, t3, t4, t5, t6, g1, g2, g3, g4, rfl, hR, hsz, hgood, hhx, hhd, hvm, hdv, hvs, hqa⟩ := hR
  dsimp only at hR hsz hgood hhd hdv hqa
  have hev := ev_tree env t [] [] [t.val env] [] t.names hgood (by simpa using Ev.nil)
  have hb1 : ∀ p ∈ offA qa news, p.1 ≠ qa := offA_ne
  have hR1 := hR.tup (tup_offA N hqa (show Value.type "list" ≠ _ by decide))
  have hhx1 : _ ∈ offA qa news := mem_offA hhx (news_ne N hhx hqa (show Value.ref 397 ≠ Value.type "list" by decide))
  have hhd1 : _ ∈ offA qa news := mem_offA hhd (news_ne N hhd hqa (show Value.type "dict" ≠ Value.type "list" by decide))
  have hvm1 : _ ∈ offA qa news := mem_offA hvm (news_ne N hvm hqa (by rw [hdv.cls]; show Value.type "dict" ≠ Value.type "list"; decide))
  have hoff : ∀ p ∈ news, p.1 ≠ qa → p ∈ offA qa news := fun p hp => mem_offA hp
  generalize hrest : offA qa news = rest0 at *
  k_with_none
  k_with "my while" => (
    k_here
    k_dflt (
      refine' While_inv2 (wrJ env [t.val env] t.names qa hx rest0) (n₀ := 2 * t.size) ?k1 ?k2 (wait ?start) (wait ?turn) ?hE
      (case k1 => k_asm)
      (case k2 => k_asm)
      (case hE => first | passes_own | with_unfolding_all passes_own)))
  refine wpAny_call ?_
  k_dflt ktr_enter
  k_steps
  case start =>
    rename_i Tp _ _ wa0 _ lw va0 _ lv _ _ _ _ _ _ _ _
    have hq1 := ktn_ltOf lw.2 _ hqa
    have hq2 := ktn_ltOf lv.2.2 _ hqa
    subst hrest
    exact ⟨_, wa0, va0, [.ref Tp], [], [], 0, k0, 0, [(t, false)], [], [], canon3 rfl rfl rfl, .tail _ (.tail _ (.head _)), in4 _ hqa, .tail _ (.head _), Nat.ne_of_gt hq1, Nat.ne_of_gt lv.1, Nat.ne_of_gt hq2, .cons (.mk (.tail _ (.tail _ (.tail _ (.head _)))) (hR.mono in4)) .nil, .nil, .nil, hev, fun p hp => in4 p (offA_sub p hp), fun p hp => Nat.ne_of_lt (ktn_ltOf lw.2 _ (offA_sub p hp)), by simp [costs, cost], by simp only [costs, cost, List.map_cons, List.map_nil, List.sum_cons, List.sum_nil, List.length_nil]; omega, by simp only [costs, cost, List.map_cons, List.map_nil, List.sum_cons, List.sum_nil, List.length_nil]; omega⟩
  case turn =>
    rintro n m₁ nx h tk F1 N0 ⟨u, wa, va, ws, vs, as, k1, k2, k3, st, zs, ns, rfl, hwa, hqa2, hva, hne1, hne2, hne3, hws, hvs2, has, he, hsub, hbw, rfl, hz1, hz2⟩
    have N1 : News _ _ h ((wa, listOf (List.toArray ws) k1) :: (qa, listOf (List.toArray as) k2) :: offA wa (offA qa nx)) := newsSub N0 fun p hp => by
      rcases List.mem_cons.mp hp with rfl | hp
      · exact hwa
      rcases List.mem_cons.mp hp with rfl | hp
      · exact hqa2
      · exact offA_sub p (offA_sub p hp)
    have hws' := (hws.tup (tup_offA N0 hqa2 (show Value.type "list" ≠ _ by decide))).tup (tup_offA (newsSub N0 offA_sub) (mem_offA hwa hne1) (show Value.type "list" ≠ _ by decide))
    have hva' : (va, listOf (List.toArray vs) k3) ∈ offA wa (offA qa nx) := mem_offA (mem_offA hva hne3) hne2
    have hsub' : ∀ p ∈ rest0, p ∈ offA wa (offA qa nx) := fun p hp => mem_offA (mem_offA (hsub p hp) (hb1 p hp)) (hbw p hp)
    have hrw : ∀ p ∈ offA wa (offA qa nx), p.1 ≠ wa := offA_ne
    have hrq : ∀ p ∈ offA wa (offA qa nx), p.1 ≠ qa := fun p hp => offA_ne p (offA_sub p hp)
    clear hws hva hsub hwa hqa2 N0
    generalize offA wa (offA qa nx) = rest at *
    replace hne1 := neN hne1
    replace hne2 := neN hne2
    replace hne3 := neN hne3
    have hhx2 := hsub' _ hhx1
    have hhd2 := hsub' _ hhd1
    have hvm2 := hsub' _ hvm1
    have hll := len_costs st
    have hwl := hws'.length
    have hvl := hvs2.length
    have hal := strsAre_length has
    cases he with
    | nil =>
      cases hws'
      cases hvs2 with
      | cons _ tz hvs2 => ?_
      cases hvs2
      k_steps
      exact hret _ _ _ _ (by k_asm) (by k_asm) ⟨fun p hp hne => in2 p (hsub' p (hoff p hp hne)), _, _, _, rfl, .tail _ (.head _), has⟩
    | leaf hx1 he =>
      rename_i x0 st0
      simp only [List.reverse_cons] at hws'
      obtain ⟨us, v0, rfl, hus, hv0⟩ := hws'.snoc
      cases hv0 with
      | mk hmk ht => ?_
      cases ht with
      | leaf hm => ?_
      rename_i pk _ ak _ _ _
      have hlen : LenIs (us ++ [Value.ref pk]) ((us.length : Int) + 1) := lenB_snoc ⟨rfl, by simp only [List.length_append, List.length_reverse, List.length_cons, List.length_nil] at hwl hll; omega⟩
      have hlen2 : LenIs vs (vs.length : Int) := ⟨rfl, by omega⟩
      clear hws'
      simp only [costs_cons, cost, Tr.size, List.length_append, List.length_reverse, List.length_cons, List.length_nil] at hz1 hz2 hll hwl
      have hul : us.length ≤ 100 := by omega
      k_steps
      rename_i va2 vs2 _ hI2 l12 _ FF NN
      refine while_end FF NN (n' := costs st0) (by simp only [costs_cons, cost, Tr.size]; omega) ⟨_, wa, va2, us, vs2, as ++ [.str x0 _], k1 + 1, k2 + 1, 0, st0, zs ++ [env x0], ns ++ [x0], canon3 rfl rfl rfl, .tail _ (.tail _ (.tail _ (.tail _ (.tail _ (.tail _ (.tail _ (.head _))))))), .tail _ (.tail _ (.tail _ (.tail _ (.tail _ (.tail _ (.tail _ (.tail _ (.head _)))))))), .head _, hne1, neN (by omega), neN (by omega), hus.mono in9, hI2, strsAre_append has (.cons _ _ .nil), he, fun p hp => in9 p (hsub' p hp), hbw, rfl, by simp only [List.length_append, List.length_cons, List.length_nil]; omega, by simp only [List.length_append, List.length_cons, List.length_nil]; omega⟩
    | node he =>
      rename_i sg0 l0 r0 st0
      simp only [List.reverse_cons] at hws'
      obtain ⟨us, v0, rfl, hus, hv0⟩ := hws'.snoc
      cases hv0 with
      | mk hmk ht => ?_
      cases ht with
      | node hm hl hr => ?_
      rename_i pk _ ak _ _ vl1 vr1 _
      have hlen : LenIs (us ++ [Value.ref pk]) ((us.length : Int) + 1) := lenB_snoc ⟨rfl, by simp only [List.length_append, List.length_reverse, List.length_cons, List.length_nil] at hwl hll; omega⟩
      have hlen2 : LenIs vs (vs.length : Int) := ⟨rfl, by omega⟩
      clear hws'
      simp only [costs_cons, cost, Tr.size, List.length_append, List.length_reverse, List.length_cons, List.length_nil] at hz1 hz2 hll hwl
      have hul : us.length ≤ 100 := by omega
      k_with "my rev" => (
        k_here
        k_dflt (
          refine' rev_L ?k1 ?k2 ?k3 ?_
          (case k1 => k_asm)
          (case k2 => k_asm)
          (case k3 => k_mem)
          intro t' h' F' N' l1r))
      k_with "my comp" => (
        k_here
        k_dflt (refine ListComp_W (F₀z := by k_asm) (by rfl) (by decide) (by rfl) (by decide) (by rfl) ?_))
      k_with "my src" => (
        k_here
        k_dflt (
          refine' blk_rev2 (rs := [vr1, vl1]) rfl ?k1 ?k2 ?k3 ?k4 ?k5 ?k6 ?_
          (case k1 => k_asm)
          (case k2 => k_asm)
          (case k3 => k_mem)
          (case k4 => exact l1r)
          (case k5 => rfl)
          (case k6 => exact Nat.le_of_ble_eq_true rfl)
          lcg_lit))
      k_steps
      rename News _ _ _ _ => NN
      refine while_end (by k_asm) NN (n' := costs ((l0, false) :: (r0, false) :: (.node sg0 l0 r0, true) :: st0)) ?cc ⟨_, wa, va, _, vs, as, _, k2, k3, (l0, false) :: (r0, false) :: (.node sg0 l0 r0, true) :: st0, zs, ns, canon3 rfl rfl rfl, .tail _ (.tail _ (.tail _ (.tail _ (.tail _ (.tail _ (.head _)))))), .tail _ (.tail _ (.tail _ (.tail _ (.tail _ (.tail _ (.tail _ (.head _))))))), in8 _ hva', hne1, hne2, hne3, ?wk, hvs2, has, he, fun p hp => in8 p (hsub' p hp), hbw, rfl, ?c1, ?c2⟩
      case wk =>
        simp only [List.reverse_cons, List.append_assoc, List.cons_append, List.nil_append]
        exact (hus.mono in8).append (.cons (.mk (.tail _ (.tail _ (.tail _ (.head _)))) (.node (in8 _ hm) (hl.mono in8) (hr.mono in8))) (.cons (.mk (.tail _ (.tail _ (.head _))) (hr.mono in8)) (.cons (.mk (.tail _ (.head _)) (hl.mono in8)) .nil)))
      case cc => simp only [costs_cons, cost, Tr.size]; omega
      case c1 => simp only [costs_cons, cost]; omega
      case c2 => simp only [costs_cons, cost]; omega
    | ready hsg ha1 hb1 ha2 hb2 hab he =>
      rename_i sg0 l0 r0 st0 a0 b0 z0
      simp only [List.reverse_cons] at hws'
      obtain ⟨us, v0, rfl, hus, hv0⟩ := hws'.snoc
      cases hv0 with
      | mk hmk ht => ?_
      cases ht with
      | node hm hl hr => ?_
      rename_i pk _ ak _ _ vl1 vr1 _
      rw [show z0 ++ [a0, b0] = (z0 ++ [a0]) ++ [b0] by simp] at hvs2
      obtain ⟨qs1, tb, rfl, hps1⟩ := ints_snoc hvs2
      obtain ⟨qs, ta, rfl, hps2⟩ := ints_snoc hps1
      clear hvs2 hps1
      simp only [List.append_assoc, List.cons_append, List.nil_append] at hva' hvl
      have hlen : LenIs (us ++ [Value.ref pk]) ((us.length : Int) + 1) := lenB_snoc ⟨rfl, by simp only [List.length_append, List.length_reverse, List.length_cons, List.length_nil] at hwl hll; omega⟩
      simp only [costs_cons, cost, Tr.size, List.length_append, List.length_reverse, List.length_cons, List.length_nil] at hz1 hz2 hll hwl hvl
      have hlen2 : LenIs (qs ++ [.int a0 ta, .int b0 tb]) ((qs.length : Int) + 2) := ⟨by simp, by omega⟩
      clear hws'
      have hul : us.length ≤ 100 := by omega
      k_with "my call" => k_dflt (
        (with_reducible show wpAny _ _ (call (Value.ref 304) [_, _, _, _, _]) _ _ _)
        refine' keeps_use ?k1 ?k2 ?k3 ?k4 ?k5 ?kK ?kR (wtwo_ ⟨sg0, a0, b0⟩) ?kd ?ku ?_
        (case k1 => k_asm)
        (case k2 => k_asm)
        (case k3 => k_asm)
        (case k4 => k_asm)
        (case k5 => k_asm)
        (case kK => first | exact rfl | assumption)
        (case kR => exact ⟨_, _, _, _, _, rfl, hsg, ha1, hb1, ha2, hb2, hab⟩)
        (case kd => ktr_room)
        (case ku => ktr_units)
        intro r9 news9 h9 tk9 F9 N9 ho9
        obtain ⟨hs9, t9, rfl⟩ := ho9
        replace N9 := newsSub N9 hs9
        dsimp only
        try k_fold)
      k_steps
      rename_i va2 vs2 _ hI2 l12 _ FF NN
      refine while_end FF NN (n' := costs st0) (by simp only [costs_cons, cost]; omega) ⟨_, wa, va2, us, vs2, as, k1 + 1, k2, 0, st0, z0 ++ [opv sg0 a0 b0], ns, canon3 rfl rfl rfl, .tail _ (.tail _ (.tail _ (.tail _ (.tail _ (.tail _ (.head _)))))), .tail _ (.tail _ (.tail _ (.tail _ (.tail _ (.tail _ (.tail _ (.head _))))))), .head _, hne1, neN (by omega), neN (by omega), hus.mono in8, hI2, has, he, fun p hp => in8 p (hsub' p hp), hbw, rfl, by simp only [List.length_append, List.length_cons, List.length_nil]; omega, by omega⟩
end
end

section
section
structure Gt where
  ba : Addr
  la : Addr
  spot : Int
  below : Int
noncomputable abbrev gotT : Con Gt where
  Rel := fun news vs d => ∃ tb ts k n scs ns, vs = [.ref d.ba, .int d.below tb] ∧ (d.ba, listOf #[.ref d.la, .int d.spot ts] k) ∈ news ∧ (d.la, listOf (List.toArray scs) n) ∈ news ∧ d.la ≠ d.ba ∧ IntsAre scs ns ∧ ns.length ≤ 64 ∧ 0 ≤ d.spot ∧ d.spot ≤ 1000 ∧ 1 ≤ d.below ∧ d.below ≤ 8
  size := fun _ => 3
  Out := fun news news' r d => (∀ p ∈ news, p.1 ≠ d.ba → p ∈ news') ∧ ∃ x tk ts k, r = .int x tk ∧ 0 ≤ x ∧ x < d.below ∧ (d.ba, listOf #[.ref d.la, .int (d.spot + 1) ts] k) ∈ news'
set_option maxHeartbeats 4000000 in
theorem got_ {w : World} {mg mb : Str → Option Value} {mean : ExcName → Option Value} : ∀ d, Keeps pw w (K w.params) V lw mean mg mb 408 gotT d := by
  rintro ⟨ba, la, spot, below⟩
  unfold Keeps
  intro dp un gd cn cs a ccd cl outer A₀ base h₀ L m news s vs Q E B F X N T hk hR hd hu hret
  obtain ⟨tb, ts, k, n, scs, ns, rfl, hba, hla, hlb, hsc, hns, hs0, hs1, hb0, hb1⟩ := hR
  dsimp only at hba hla hlb hs0 hs1 hb0 hb1 hret
  have N1 : News h₀ L s.heap ((ba, listOf #[.ref la, .int spot ts] k) :: (la, listOf (List.toArray scs) n) :: offA la (offA ba news)) := newsSub N fun p hp => by
    rcases List.mem_cons.mp hp with rfl | hp
    · exact hba
    rcases List.mem_cons.mp hp with rfl | hp
    · exact hla
    · exact offA_sub p (offA_sub p hp)
  have hrb : ∀ p ∈ offA la (offA ba news), p.1 ≠ ba := fun p hp => offA_ne p (offA_sub p hp)
  have hup : ∀ p ∈ news, p.1 ≠ ba → p ∈ (la, listOf (List.toArray scs) n) :: offA la (offA ba news) := fun p hp hne => by
    by_cases e : p.1 = la
    · have : p = (la, listOf (List.toArray scs) n) := Prod.ext e (news_one N (show (la, p.2) ∈ news by rw [← e]; exact hp) hla)
      rw [this]; exact .head _
    · exact .tail _ (mem_offA (mem_offA hp hne) e)
  clear N hba hla
  generalize offA la (offA ba news) = rest at *
  replace hlb := neN hlb
  have hsl := hsc.length
  have hlen : LenIs scs (scs.length : Int) := ⟨rfl, by omega⟩
  k_with_none
  refine wpAny_call ?_
  k_dflt ktr_enter
  k_steps
  all_goals exact hret _ _ _ _ (by k_asm) (by k_asm) ⟨fun p hp hne => in1 p (hup p hp hne), _, _, _, _, rfl, Int.fmod_nonneg_of_pos _ (by omega), Int.fmod_lt_of_pos _ (by omega), .head _⟩
end
end

section
section
theorem pick_from2 {p q : List Value} {a b : Value} {x : Int} (hx : x = (p.length : Int) + 2) : (slicePick (p ++ a :: b :: q).toArray (some x) none none).toList = q := by
  have e : p ++ a :: b :: q = (p ++ [a, b]) ++ q := by simp
  rw [e]
  exact pick_from (by rw [hx]; simp)
local macro_rules | `(tactic| walk_at "subscriptTail Name Slice ref ref") => `(tactic| (k_here; (with_reducible show wpAny _ _ (subscriptTail _ (PySem.Expr.Slice _ _ none _) (Value.ref _) (Value.ref _)) _ _ _); k_dflt (refine' kmk_slice_lit ?F ?N ?l ?p ?q ?e ?_ ?s ?t ?z; (case F => k_asm); (case N => k_asm); (case l => first | exact listAt (by k_asm) (by k_mem)); (case p => kmk_part); (case q => kmk_part); (case e => first | exact pick_from2 (by omega) | exact pick_to (by omega)); (case s => with_unfolding_all rfl); (case t => kmk_pure); (case z => (rw [sizeLine_eq]; (try simp only [List.size_toArray, List.length_append, List.length_cons, List.length_nil]); omega))); intro D' h' F' N' l1; (try k_lt l1); (try k_sweep)))
theorem at_fst {p q : List Value} {a b : Value} {x : Int} (h : x = (p.length : Int)) : (p ++ a :: b :: q)[x.toNat]? = some a := by subst h; simp
theorem at_snd {p q : List Value} {a b : Value} {x : Int} (h : x = (p.length : Int) + 1) : (p ++ a :: b :: q)[x.toNat]? = some b := by
  have e : x.toNat = p.length + 1 := by omega
  rw [e, List.getElem?_append_right (by omega)]
  simp
local macro_rules | `(tactic| walk_at "subscriptTail") => `(tactic| (k_here; (with_reducible show wpAny _ _ (subscriptTail _ _ (Value.ref _) (Value.int _ _)) _ _ _); k_dflt (refine' item_litK ?k1 ?k2 ?k3 ?k4 ?_ ?k6; (case k1 => exact listAt (by k_asm) (by k_mem)); (case k2 => first | decide | omega); (case k3 => first | decide | omega); (case k4 => first | rfl | exact at_fst (by omega) | exact at_snd (by omega)); (case k6 => with_unfolding_all rfl); k_whole)))
local macro_rules | `(tactic| walk_at "CompSrc") => `(tactic| (refine wait ?_))
local macro_rules | `(tactic| walk_at "FinA") => `(tactic| ((unfold FinA); intro D' h' tk' F' N' o1'; (try simp only [List.nil_append, List.cons_append] at N'); (try dsimp only)))
noncomputable def Tr.leaves : Tr → Nat
  | .leaf _ => 1
  | .node _ l r => l.leaves + r.leaves
noncomputable def Tr.shp : Tr → Prop
  | .leaf x => Nm x
  | .node sg l r => l.shp ∧ r.shp ∧ Sign sg
theorem Tr.leaves_pos : ∀ t : Tr, 1 ≤ t.leaves
  | .leaf _ => Nat.le_refl _
  | .node _ l r => Nat.le_trans l.leaves_pos (Nat.le_add_right _ _)
theorem Tr.size_leaves : ∀ t : Tr, t.size + 1 = 2 * t.leaves
  | .leaf _ => rfl
  | .node _ l r => by
    have h1 := l.size_leaves
    have h2 := r.size_leaves
    simp only [Tr.size, Tr.leaves]
    omega
theorem split_two {vs : List Value} {x : Int} (h0 : 0 ≤ x) (h1 : x < (vs.length : Int) - 1) : ∃ p a b q, vs = p ++ a :: b :: q ∧ x = (p.length : Int) := by
  have h2 : x.toNat + 1 < vs.length := by omega
  refine ⟨vs.take x.toNat, vs[x.toNat]'(by omega), vs[x.toNat + 1], vs.drop (x.toNat + 2), ?_, ?_⟩
  · rw [← List.drop_eq_getElem_cons, ← List.drop_eq_getElem_cons, List.take_append_drop]
  · rw [List.length_take]
    omega
theorem TreesIn.split {news : List (Addr × Obj)} {p q : List Value} {a b : Value} : ∀ {ts : List Tr}, TreesIn news (p ++ a :: b :: q) ts → ∃ tp ta tb tq, ts = tp ++ ta :: tb :: tq ∧ TreesIn news p tp ∧ TreeIn news a ta ∧ TreeIn news b tb ∧ TreesIn news q tq := by
  induction p with
  | nil =>
    intro ts h
    cases h with
    | cons h1 h2 =>
      cases h2 with
      | cons h3 h4 => exact ⟨[], _, _, _, rfl, .nil, h1, h3, h4⟩
  | cons v p ih =>
    intro ts h
    cases h with
    | cons h1 h2 =>
      obtain ⟨tp, ta, tb, tq, rfl, h3, h4, h5, h6⟩ := ih h2
      exact ⟨_ :: tp, ta, tb, tq, rfl, .cons h1 h3, h4, h5, h6⟩
structure Dr where
  ba : Addr
  la : Addr
noncomputable abbrev drT : Con Dr where
  Rel := fun news vs d => ∃ ts k n scs ns, vs = [.ref d.ba] ∧ (d.ba, listOf #[.ref d.la, .int 0 ts] k) ∈ news ∧ (d.la, listOf (List.toArray scs) n) ∈ news ∧ d.la ≠ d.ba ∧ IntsAre scs ns ∧ ns.length ≤ 64
  size := fun _ => 20
  Out := fun news news' r d => (∀ p ∈ news, p.1 ≠ d.ba → p ∈ news') ∧ ∃ t spot ts k, TreeIn news' r t ∧ t.shp ∧ t.leaves ≤ 5 ∧ 0 ≤ spot ∧ spot ≤ 100 ∧ (d.ba, listOf #[.ref d.la, .int spot ts] k) ∈ news'
noncomputable def leafJ (ba la : Addr) (base : List (Addr × Obj)) (ts : Tok) (kb : Nat) (i : Nat) (ys : List Value) (nx : List (Addr × Obj)) : Prop :=
  ∃ trees, TreesIn nx ys trees ∧ (∀ t ∈ trees, t.shp) ∧ trees.length = i ∧ (trees.map Tr.leaves).sum = i ∧ (ba, listOf #[.ref la, .int (0 + 1) ts] kb) ∈ nx ∧ (∀ p ∈ base, p.1 ≠ ba → p ∈ nx)
noncomputable def drJ (ba la : Addr) (base : List (Addr × Obj)) (n : Nat) (m : Str → Option Value) (nx : List (Addr × Obj)) : Prop :=
  ∃ (u : Str → Option Value) (pa : Addr) (ps : List Value) (k : Nat) (spot : Int) (ts : Tok) (kb : Nat) (trees : List Tr),
    m = (fun y => if y = Str.ofString "parts" then some (.ref pa) else if y = Str.ofString "bag" then some (.ref ba) else u y) ∧ (pa, listOf (List.toArray ps) k) ∈ nx ∧ pa ≠ ba ∧ TreesIn nx ps trees ∧ (∀ t ∈ trees, t.shp) ∧ (trees.map Tr.leaves).sum ≤ 5 ∧ 1 ≤ trees.length ∧ trees.length ≤ n ∧
    (ba, listOf #[.ref la, .int spot ts] kb) ∈ nx ∧ 0 ≤ spot ∧ spot + 2 * (trees.length : Int) ≤ 90 ∧ (∀ p ∈ base, p.1 ≠ ba → p ∈ nx)
set_option maxHeartbeats 4000000 in
theorem drawn_ {w : World} {mg mb : Str → Option Value} {mean : ExcName → Option Value} : ∀ d, Keeps pw w (K w.params) V lw mean mg mb 413 drT d := by
  rintro ⟨ba, la⟩
  unfold Keeps
  intro dp un gd cn cs a ccd cl outer A₀ base h₀ L m news s vs Q E B F X N T hk hR hd hu hret
  obtain ⟨ts, k, n, scs, ns, rfl, hba, hla, hlb, hsc, hns⟩ := hR
  dsimp only at hba hla hlb hret
  k_with_none
  k_with "my call" => k_dflt (
    (with_reducible show wpAny _ _ (call (Value.ref 408) [_, Value.int 3 _]) _ _ _)
    refine' keeps_use ?k1 ?k2 ?k3 ?k4 ?k5 ?kK ?kR (got_ ⟨ba, la, 0, 3⟩) ?kd ?ku ?_
    (case k1 => k_asm)
    (case k2 => k_asm)
    (case k3 => k_asm)
    (case k4 => k_asm)
    (case k5 => k_asm)
    (case kK => first | exact rfl | assumption)
    (case kR => exact ⟨_, _, _, _, _, _, rfl, hba, hla, hlb, hsc, hns, by dsimp only; decide, by dsimp only; decide, by dsimp only; decide, by dsimp only; decide⟩)
    (case kd => ktr_room)
    (case ku => ktr_units)
    intro r9 news9 h9 tk9 F9 N9 ho9
    obtain ⟨hs9, x9, t9, ts9, k9, rfl, hx0, hx1, hb9⟩ := ho9
    dsimp only at hx0 hx1 hb9
    dsimp only
    try k_fold)
  k_with "my acomp" => (
    k_here
    k_dflt (refine Assign_ListComp_U (F₀ := by k_asm) (by rfl) (by with_unfolding_all rfl) (by rfl) (by decide) (by rfl) (by decide) (by rfl) (by rfl) (by rfl) ?_)
    k_dflt lcg_toSrc)
  k_with "my while" => (
    k_here
    k_dflt (
      refine' While_inv2 (drJ ba la news) (n₀ := 5) ?k1 ?k2 (wait ?_) (wait ?_) ?hE
      (case k1 => k_asm)
      (case k2 => k_asm)
      (case hE => first | passes_own | with_unfolding_all passes_own)))
  refine wpAny_call ?_
  k_dflt ktr_enter
  k_steps
  rename_i hrg Fg Ng _
  have hx2 : x9 = 0 ∨ x9 = 1 ∨ x9 = 2 := by omega
  refine LCg.CompSrc.range (n := (x9 + 3).toNat) (by rfl) Fg Ng hrg ?sm ?rs ?sz ?_
  case sm => rcases hx2 with rfl | rfl | rfl <;> rfl
  case rs => rcases hx2 with rfl | rfl | rfl <;> rfl
  case sz => rw [sizeLine_eq]; omega
  intro g9
  clear hx2
  refine compRest_ind (n := (x9 + 3).toNat) (leafJ ba la news ts9 k9) ?done ?turn _ 0 _ _ (Nat.zero_add _) ⟨[], .nil, List.forall_mem_nil _, rfl, rfl, hb9, hs9⟩
  case turn =>
    rintro i ys nx hi ⟨trees, g1, g2, g3, g4, g5, g6⟩ v I oI C oC D m2 h4 tk4 E2 hv hC hx F4 N4 off4
    obtain ⟨t4, rfl⟩ := hv
    have hi0 : 0 ≤ 0 + (i : Int) := by omega
    have hi5 : 0 + (i : Int) < 5 := by omega
    k_steps
    exact ⟨trees ++ [.leaf (Txt.item (Str.ofString "ABCDE") (0 + (i : Int)))], (g1.mono in1).append (.cons (.leaf (.head _)) .nil), List.forall_mem_append.mpr ⟨g2, List.forall_mem_cons.mpr ⟨(show Tr.shp (.leaf (Txt.item (Str.ofString "ABCDE") (0 + (i : Int)))) from nm_item hi0 hi5), List.forall_mem_nil _⟩⟩, by rw [List.length_append, g3]; rfl, by rw [List.map_append, List.sum_append, g4]; rfl, .tail _ g5, fun p hp hne => .tail _ (g6 p hp hne)⟩
  case done =>
    rintro ys nx ⟨trees, g1, g2, g3, g4, g5, g6⟩
    k_steps
    · rename Off1 _ _ => o1
      exact ⟨_, _, _, _, _, _, _, trees, canon2 rfl rfl, .head _, Ne.symm (off1_mem o1 _ g5), g1.mono in1, g2, by omega, by omega, by omega, .tail _ g5, by omega, by omega, fun p hp hne => .tail _ (g6 p hp hne)⟩
    · rintro n m₁ nx h tk F1 N0 ⟨u, pa, ps, kp, spot, tsp, kb, trees, rfl, hpa, hpb, hts, hsh, hlv, hln, hnn, hbg, hs0, hs1, hsub⟩
      have hlen := hts.length
      rcases trees with _ | ⟨ta, _ | ⟨tb, tr⟩⟩
      · exact absurd hln (by decide)
      · cases hts with
        | cons h1 h2 => ?_
        cases h2
        k_with_none
        k_steps
        refine hret _ _ _ _ (by k_asm) (by k_asm) ⟨hsub, ta, spot, tsp, kb, h1, hsh _ (.head _), ?_, hs0, by omega, hbg⟩
        simpa using hlv
      · have hps2 : (ps.length : Int) = (tr.length : Int) + 2 := by rw [hlen]; simp only [List.length_cons]; omega
        have hpl : ps.length ≤ 5 := by
          have e1 := ta.leaves_pos
          have e2 := tb.leaves_pos
          have e3 : ∀ l : List Tr, l.length ≤ (l.map Tr.leaves).sum := by
            intro l
            induction l with
            | nil => exact Nat.le_refl _
            | cons t l ih => have := t.leaves_pos; simp only [List.length_cons, List.map_cons, List.sum_cons]; omega
          have e4 := e3 (ta :: tb :: tr)
          omega
        have hll : LenIs ps (ps.length : Int) := ⟨rfl, by omega⟩
        have hla1 := hsub _ hla hlb
        k_with_none
        k_with "my call" => k_dflt (
          (with_reducible show wpAny _ _ (call (Value.ref 408) [_, Value.int ((_ : Int) - 1) _]) _ _ _)
          refine' keeps_use ?k1 ?k2 ?k3 ?k4 ?k5 ?kK ?kR (got_ ⟨ba, la, spot, (ps.length : Int) - 1⟩) ?kd ?ku ?_
          (case k1 => k_asm)
          (case k2 => k_asm)
          (case k3 => k_asm)
          (case k4 => k_asm)
          (case k5 => k_asm)
          (case kK => first | exact rfl | assumption)
          (case kR => exact ⟨_, _, _, _, _, _, rfl, hbg, hla1, hlb, hsc, hns, hs0, by dsimp only; omega, by dsimp only; omega, by dsimp only; omega⟩)
          (case kd => ktr_room)
          (case ku => ktr_units)
          intro r9 news9 h9 tk9 F9 N9 ho9
          obtain ⟨hs9, x9, t9, ts9, k9, rfl, hx0, hx1, hb9⟩ := ho9
          dsimp only at hx0 hx1 hb9
          (obtain ⟨p0, va0, vb0, q0, rfl, rfl⟩ := split_two hx0 (by omega))
          clear hx0 hx1
          dsimp only
          (have hps9 := hs9 _ hpa hpb)
          (replace hs9 := hs9)
          (have hla9 := hs9 _ hla1 hlb)
          (have hbg9 := hb9)
          (try k_fold))
        k_with "my call" => k_dflt (
          (with_reducible show wpAny _ _ (call (Value.ref 408) [_, Value.int 2 _]) _ _ _)
          refine' keeps_use ?k1 ?k2 ?k3 ?k4 ?k5 ?kK ?kR (got_ ⟨ba, la, spot + 1, 2⟩) ?kd ?ku ?_
          (case k1 => k_asm)
          (case k2 => k_asm)
          (case k3 => k_asm)
          (case k4 => k_asm)
          (case k5 => k_asm)
          (case kK => first | exact rfl | assumption)
          (case kR => exact ⟨_, _, _, _, _, _, rfl, hb9, hla9, hlb, hsc, hns, by dsimp only; omega, by dsimp only; omega, by dsimp only; decide, by dsimp only; decide⟩)
          (case kd => ktr_room)
          (case ku => ktr_units)
          intro r8 news8 h8 tk8 F8 N8 ho8
          obtain ⟨hs8, x8, t8, ts8, k8, rfl, hx0, hx1, hb8⟩ := ho8
          dsimp only at hx0 hx1 hb8
          have hsg8 := sign_item hx0 hx1
          (have hps8 := hs8 _ hps9 hpb)
          (have hpq : p0.length + q0.length ≤ 3 := by simp only [List.length_append, List.length_cons] at hpl; omega)
          dsimp only
          try k_fold)
        k_with "my add" => k_dflt (
          refine' add_L ?k1 ?k2 ?k3 ?k4 ?_ ?kz
          (case k1 => k_asm)
          (case k2 => k_asm)
          (case k3 => k_mem)
          (case k4 => k_mem)
          (case kz => (simp only [sizeLine_eq, List.length_append, List.length_cons, List.length_nil] at *; omega))
          intro D' h' F' N' l1)
        have htb : ∀ a o, (a, o) ∈ nx → o.cls = .type "tuple" → a ≠ ba := fun a o hm hc => news_ne N0 hm hbg (by rw [hc]; show Value.type "tuple" ≠ Value.type "list"; decide)
        k_steps
        all_goals (
          rename News _ _ _ _ => NN
          obtain ⟨tp, t1, t2, tq, he, g1, g2, g3, g4⟩ := hts.split
          have kt := fun a o hm hc => sub7 NN _ (hs8 _ (hs9 _ hm (htb a o hm hc)) (htb a o hm hc))
          rw [he] at hsh hlv hln hnn
          have hlq := congrArg List.length he
          simp only [List.length_append, List.length_cons, List.map_append, List.map_cons, List.sum_append, List.sum_cons, List.forall_mem_append, List.forall_mem_cons] at hsh hlv hln hnn hlq hs1
          refine while_end (by k_asm) NN (n' := (tp ++ [Tr.node (Txt.item (Str.ofString "+*") x8) t1 t2] ++ tq).length) ?n1 ⟨_, D', _, 0, spot + 1 + 1, _, _, tp ++ [.node _ t1 t2] ++ tq, canon2 rfl rfl, .head _, Nat.ne_of_gt (l1 _ (in6 _ hb8)), ((g1.tup kt).append (.cons (.node (.tail _ (.tail _ (.tail _ (.tail _ (.head _))))) (g2.tup kt) (g3.tup kt)) .nil)).append (g4.tup kt), ?sh, ?lv, ?ln, ?nn, in7 _ hb8, by omega, ?sp, fun p hp hne => in7 _ (hs8 _ (hs9 _ (hsub p hp hne) hne) hne)⟩
          case n1 => simp only [List.length_append, List.length_cons, List.length_nil]; omega
          case sh =>
            simp only [List.forall_mem_append, List.forall_mem_cons]
            exact ⟨⟨hsh.1, ⟨hsh.2.1, hsh.2.2.1, hsg8⟩, List.forall_mem_nil _⟩, hsh.2.2.2⟩
          case lv => simp only [List.map_append, List.map_cons, List.map_nil, List.sum_append, List.sum_cons, List.sum_nil, Tr.leaves]; omega
          case ln => simp only [List.length_append, List.length_cons, List.length_nil]; omega
          case nn => simp only [List.length_append, List.length_cons, List.length_nil]; omega
          case sp => simp only [List.length_append, List.length_cons, List.length_nil]; omega)
end
end

section
open PySem PySem.W PyProof.Rows
theorem opv_add (a b : Int) : opv (Str.ofString "+") a b = a + b := rfl
theorem opv_mul (a b : Int) : opv (Str.ofString "*") a b = a * b := rfl
theorem five_pos (n : Nat) (h : 1 ≤ n) : 5 ≤ 5 ^ n := by
  have : 5 ^ 1 ≤ 5 ^ n := Nat.pow_le_pow_right (by decide) h
  simpa using this
theorem Tr.val_five {env : Str → Int} (henv : ∀ x, Nm x → 1 ≤ env x ∧ env x ≤ 5) : ∀ t : Tr, t.shp → 1 ≤ t.val env ∧ t.val env ≤ ((5 ^ t.leaves : Nat) : Int)
  | .leaf x, h => by have := henv x h; simp only [Tr.val, Tr.leaves]; omega
  | .node sg l r, h => by
    have h1 := Tr.val_five henv l h.1
    have h2 := Tr.val_five henv r h.2.1
    have p1 := five_pos l.leaves l.leaves_pos
    have p2 := five_pos r.leaves r.leaves_pos
    simp only [Tr.val, Tr.leaves, Nat.pow_add]
    generalize 5 ^ l.leaves = p at *
    generalize 5 ^ r.leaves = q at *
    rcases h.2.2 with rfl | rfl
    · rw [opv_add]
      have e : p + q ≤ p * q := by
        have a1 : p * 2 ≤ p * q := Nat.mul_le_mul_left p (by omega)
        have a2 : 2 * q ≤ p * q := Nat.mul_le_mul_right q (by omega)
        omega
      have e' : ((p * q : Nat) : Int) ≥ p + q := by exact_mod_cast e
      omega
    · rw [opv_mul]
      have m1 := Int.mul_le_mul h1.1 h2.1 (by decide) (by omega)
      have m2 := Int.mul_le_mul h1.2 h2.2 (by omega) (by omega)
      constructor
      · simpa using m1
      · rw [Int.natCast_mul]; exact m2
theorem Tr.good_of {env : Str → Int} (henv : ∀ x, Nm x → 1 ≤ env x ∧ env x ≤ 5) : ∀ t : Tr, t.shp → t.leaves ≤ 5 → t.good env
  | .leaf x, h, _ => ⟨h, henv x h⟩
  | .node sg l r, h, hl => by
    have hl' : l.leaves + r.leaves ≤ 5 := hl
    refine ⟨Tr.good_of henv l h.1 (by omega), Tr.good_of henv r h.2.1 (by omega), h.2.2, ?_⟩
    have h1 := (Tr.val_five henv (.node sg l r) h).2
    have h2 : 5 ^ (Tr.node sg l r).leaves ≤ 5 ^ 5 := Nat.pow_le_pow_right (by decide) hl
    have h3 : ((5 ^ (Tr.node sg l r).leaves : Nat) : Int) ≤ 3125 := Int.ofNat_le.mpr (Nat.le_trans h2 (by decide))
    exact Int.le_trans h1 h3
theorem mem_pairs {sg : Str} {l t : Tr} : ∀ {rs : List Tr}, t ∈ Tr.pairs sg l rs ↔ ∃ r ∈ rs, t = .node sg l r ∨ t = .node sg r l
  | [] => by simp [Tr.pairs]
  | r :: rs => by
    simp only [Tr.pairs, List.mem_cons, mem_pairs (rs := rs)]
    constructor
    · rintro (h | h | ⟨r', h, k⟩)
      · exact ⟨r, .inl rfl, .inl h⟩
      · exact ⟨r, .inl rfl, .inr h⟩
      · exact ⟨r', .inr h, k⟩
    · rintro ⟨r', rfl | h, k⟩
      · exact k.elim .inl fun k => .inr (.inl k)
      · exact .inr (.inr ⟨r', h, k⟩)
theorem mem_cross {sg : Str} {rs : List Tr} {t : Tr} : ∀ {ls : List Tr}, t ∈ Tr.cross sg rs ls ↔ ∃ l ∈ ls, ∃ r ∈ rs, t = .node sg l r ∨ t = .node sg r l
  | [] => by simp [Tr.cross]
  | l :: ls => by
    simp only [Tr.cross, List.mem_append, List.mem_cons, mem_cross (ls := ls), mem_pairs]
    constructor
    · rintro (⟨r, h, k⟩ | ⟨l', h, k⟩)
      · exact ⟨l, .inl rfl, r, h, k⟩
      · exact ⟨l', .inr h, k⟩
    · rintro ⟨l', rfl | h, r, h', k⟩
      · exact .inl ⟨r, h', k⟩
      · exact .inr ⟨l', h, r, h', k⟩
theorem opv_comm (sg : Str) (a b : Int) : opv sg a b = opv sg b a := by
  unfold opv
  split
  · exact Int.mul_comm ..
  · exact Int.add_comm ..
theorem exch_facts (env : Str → Int) : ∀ t t' : Tr, t' ∈ t.exch → t'.val env = t.val env ∧ t'.leaves = t.leaves ∧ (t.shp → t'.shp) ∧ t.st.1 ≤ t'.need
  | .leaf x, t', h => by
    simp only [Tr.exch, List.mem_singleton] at h
    subst h
    exact ⟨rfl, rfl, id, Int.le_refl _⟩
  | .node sg l r, t', h => by
    obtain ⟨l', hl, r', hr, k⟩ := mem_cross.mp h
    obtain ⟨a1, a2, a3, a4⟩ := exch_facts env l l' hl
    obtain ⟨b1, b2, b3, b4⟩ := exch_facts env r r' hr
    rcases k with rfl | rfl
    · refine ⟨by simp only [Tr.val, a1, b1], by simp only [Tr.leaves, a2, b2], fun q => ⟨a3 q.1, b3 q.2.1, q.2.2⟩, ?_⟩
      simp only [Tr.st, Tr.need]
      repeat' split
      all_goals (try dsimp only)
      all_goals omega
    · refine ⟨by simp only [Tr.val, a1, b1]; exact opv_comm .., by simp only [Tr.leaves, a2, b2]; omega, fun q => ⟨b3 q.2.1, a3 q.1, q.2.2⟩, ?_⟩
      simp only [Tr.st, Tr.need]
      repeat' split
      all_goals (try dsimp only)
      all_goals omega
theorem st_mem : ∀ t : Tr, t.st.2 ∈ t.exch
  | .leaf x => by simp [Tr.st, Tr.exch]
  | .node sg l r => by
    have h1 := st_mem l
    have h2 := st_mem r
    simp only [Tr.exch, mem_cross, Tr.st]
    split
    · exact ⟨_, h1, _, h2, .inr rfl⟩
    · exact ⟨_, h1, _, h2, .inl rfl⟩
theorem st_need : ∀ t : Tr, t.st.2.need = t.st.1
  | .leaf x => rfl
  | .node sg l r => by
    have h1 := st_need l
    have h2 := st_need r
    simp only [Tr.st]
    split <;> simp only [Tr.need, h1, h2] <;> repeat' split
    all_goals omega
theorem st_pos : ∀ t : Tr, 1 ≤ t.st.1 := fun t => by rw [← st_need]; exact Tr.need_pos _
theorem st_leaves : ∀ t : Tr, 2 ^ (t.st.1.toNat - 1) ≤ t.leaves
  | .leaf x => Nat.le_refl _
  | .node sg l r => by
    have h1 := st_leaves l
    have h2 := st_leaves r
    have p1 := st_pos l
    have p2 := st_pos r
    simp only [Tr.st, Tr.leaves]
    have key : ∀ a : Int, 1 ≤ a → 2 ^ ((a + 1).toNat - 1) = 2 * 2 ^ (a.toNat - 1) := fun a ha => by
      have e : (a + 1).toNat - 1 = (a.toNat - 1) + 1 := by omega
      rw [e, Nat.pow_succ]; omega
    split
    · split
      · rename_i h3 h4
        omega
      · dsimp only; omega
    · split
      · rename_i h3 h4
        dsimp only
        rw [key _ p1]
        rw [← h4] at h2
        omega
      · dsimp only; omega
theorem names_leaves : ∀ t : Tr, t.names.length = t.leaves
  | .leaf _ => rfl
  | .node _ l r => by simp only [Tr.names, List.length_append, names_leaves l, names_leaves r, Tr.leaves]
/-- the names of the orders -/
noncomputable def vars : List Od → List Str
  | [] => []
  | .var x :: r => x :: vars r
  | .two _ :: r => vars r
theorem vars_append : ∀ a b : List Od, vars (a ++ b) = vars a ++ vars b
  | [], _ => rfl
  | .var x :: r, b => by simp only [List.cons_append, vars, vars_append r b]
  | .two _ :: r, b => by simp only [List.cons_append, vars, vars_append r b]
theorem vars_ords : ∀ t : Tr, vars t.ords = t.names
  | .leaf _ => rfl
  | .node _ l r => by simp only [Tr.ords, Tr.names, vars_append, vars_ords l, vars_ords r, vars, List.append_nil]
end

section
open PySem PySem.W PyProof.Rows
open PySem.Spec PySem.Calls PySem.SeqAt
set_option maxRecDepth 100000
theorem canon5 {m : Str → Option Value} {a b c d e : Str} {va vb vc vd ve : Value} (h1 : m a = some va) (h2 : m b = some vb) (h3 : m c = some vc) (h4 : m d = some vd) (h5 : m e = some ve) : m = fun y => if y = a then some va else if y = b then some vb else if y = c then some vc else if y = d then some vd else if y = e then some ve else m y := by
  funext y
  by_cases q1 : y = a
  · subst q1; simp [h1]
  · rw [if_neg q1]
    exact congrFun (canon4 h2 h3 h4 h5) y
theorem canon6 {m : Str → Option Value} {a b c d e f : Str} {va vb vc vd ve vf : Value} (h1 : m a = some va) (h2 : m b = some vb) (h3 : m c = some vc) (h4 : m d = some vd) (h5 : m e = some ve) (h6 : m f = some vf) : m = fun y => if y = a then some va else if y = b then some vb else if y = c then some vc else if y = d then some vd else if y = e then some ve else if y = f then some vf else m y := by
  funext y
  by_cases q1 : y = a
  · subst q1; simp [h1]
  · rw [if_neg q1]
    exact congrFun (canon5 h2 h3 h4 h5 h6) y
theorem names_nm : ∀ t : Tr, t.shp → ∀ x ∈ t.names, Nm x
  | .leaf y, h, x, hx => by
    simp only [Tr.names, List.mem_singleton] at hx
    subst hx
    exact h
  | .node _ l r, h, x, hx => by
    simp only [Tr.names, List.mem_append] at hx
    exact hx.elim (names_nm l h.1 x) (names_nm r h.2.1 x)
theorem nm_ok {x : Str} (h : Nm x) : PyData.canLay0 (.str x) = true := by
  rcases h with rfl | rfl | rfl | rfl | rfl <;> decide +kernel
theorem canLay_strs : ∀ xs : List Str, (∀ x ∈ xs, Nm x) → PyData.canLayAll0 (xs.map PyData.str) = true
  | [], _ => by simp [PyData.canLayAll0]
  | x :: r, h => by
    simp only [List.map_cons, PyData.canLayAll0, nm_ok (h x (.head _)), canLay_strs r fun y hy => h y (.tail _ hy), Bool.and_self]
theorem depth_strs : ∀ xs : List Str, PyData.depthAll (xs.map PyData.str) ≤ 1
  | [] => by simp [PyData.depthAll]
  | n :: r => by
    have := depth_strs r
    simp only [List.map_cons, PyData.depthAll, PyData.depth]
    omega
theorem shaped_strs (xs : List Str) (h : ∀ x ∈ xs, Nm x) : shaped (.list (xs.map PyData.str)) = true := by
  have h1 := depth_strs xs
  have h2 : PyData.depth (.list (xs.map PyData.str)) ≤ 64 := by simp only [PyData.depth]; omega
  show (PyData.canLay0 (.list (xs.map PyData.str)) && decide (PyData.depth (.list (xs.map PyData.str)) ≤ 64)) = true
  rw [Bool.and_eq_true]
  exact ⟨by simp only [PyData.canLay0]; exact canLay_strs xs h, decide_eq_true h2⟩
theorem noMix_strs : ∀ xs : List Str, noMixAll (xs.map PyData.str) (xs.map PyData.str) = true
  | [] => by simp [noMixAll]
  | _ :: r => by simp [noMixAll, noMix, noMix_strs r]
theorem same_strs : ∀ xs : List Str, PySem.Spec.sameAll (xs.map PyData.str) (xs.map PyData.str) = true
  | [] => by simp [PySem.Spec.sameAll]
  | _ :: r => by simp [PySem.Spec.sameAll, PySem.Spec.same, same_strs r]
theorem carried_strs : ∀ {vs : List Value} {xs : List Str}, StrsAre vs xs → CarriedAll vs (xs.map PyData.str)
  | _, _, .nil => .nil
  | _, _, .cons _ t r => .cons (.str _ t) (carried_strs r)
section
variable {prog : Program} {w : World} {A : Around} {E : Value → Shared → Prop} {s : Shared} {h₀ : Heap} {L : Addr} {m : Str → Option Value} {news : List (Addr × Obj)} {a b : Addr} {vs us : List Value} {n k : Nat} {Q : Value → Shared → Prop}
theorem ne_strs {xs : List Str} (N : News h₀ L s.heap news) (ha : (a, listOf vs.toArray n) ∈ news) (hi : StrsAre vs xs) (hb : (b, listOf us.toArray k) ∈ news) (hj : StrsAre us xs) (hx : ∀ x ∈ xs, Nm x) (hu : A.units + 64 < cLine) (h : Q (.bool false) s) :
    wpAny (model prog w) A (compareOp .NotEq (.ref a) (.ref b)) Q E s :=
  ne_dataH_same (reads_newData (listAt N ha) (carried_strs hi)) (reads_newData (listAt N hb) (carried_strs hj)) (shaped_strs xs hx) (shaped_strs xs hx) hu (by simp only [noMix]; exact noMix_strs xs) (by simp only [PySem.Spec.same]; rw [same_strs]; exact h)
theorem ne_ints {xs : List Int} (N : News h₀ L s.heap news) (ha : (a, listOf vs.toArray n) ∈ news) (hi : IntsAre vs xs) (hb : (b, listOf us.toArray k) ∈ news) (hj : IntsAre us xs) (hu : A.units + 64 < cLine) (h : Q (.bool false) s) :
    wpAny (model prog w) A (compareOp .NotEq (.ref a) (.ref b)) Q E s :=
  ne_intsK (listAt N ha) hi (listAt N hb) hj hu (by simpa using h)
theorem min_L {xs : List Int} {M : Int} (F : Fr h₀ L s.heap m) (N : News h₀ L s.heap news) (ha : (a, listOf vs.toArray n) ∈ news) (hi : IntsAre vs xs) (hm : M ∈ xs) (hl : ∀ x ∈ xs, M ≤ x) (hh : A.handled = none)
    (h : ∀ h' t tk, Fr h₀ L h' m → News h₀ L h' news → Q (.int M t) { s with heap := h', toks := tk }) : wpAny (model prog w) A (call (.builtin "min") [.ref a]) Q E s :=
  kso_min F N (listAt N ha) hi (List.length_pos_of_mem hm) hh fun h' M' t tk F' N' h1 h2 => by
    have e : M' = M := by
      have e1 := hl M' h1
      have e2 := h2 M hm
      omega
    subst e
    exact h h' t tk F' N'
end
/-- the worths of the five names -/
noncomputable def envF (e0 e1 e2 e3 e4 : Int) (x : Str) : Int := if x = Str.ofString "A" then e0 else if x = Str.ofString "B" then e1 else if x = Str.ofString "C" then e2 else if x = Str.ofString "D" then e3 else e4
noncomputable abbrev fiveOf (v0 v1 v2 v3 v4 : Value) : List (Str × Value) := [(Str.ofString "A", v0), (Str.ofString "B", v1), (Str.ofString "C", v2), (Str.ofString "D", v3), (Str.ofString "E", v4)]
theorem five_vals {w : World} {o : Obj} {e0 e1 e2 e3 e4 : Int} {t0 t1 t2 t3 t4 : Tok} (h : o.IsDictOf (PySem.strKind pw w) (merged [] (fiveOf (.int e0 t0) (.int e1 t1) (.int e2 t2) (.int e3 t3) (.int e4 t4))))
    (h0 : 1 ≤ e0 ∧ e0 ≤ 5) (h1 : 1 ≤ e1 ∧ e1 ≤ 5) (h2 : 1 ≤ e2 ∧ e2 ≤ 5) (h3 : 1 ≤ e3 ∧ e3 ≤ 5) (h4 : 1 ≤ e4 ∧ e4 ≤ 5) : DictVals w o (envF e0 e1 e2 e3 e4) := by
  rw [merged_nil_of_nodup _ (by show List.Nodup [Str.ofString "A", Str.ofString "B", Str.ofString "C", Str.ofString "D", Str.ofString "E"]; decide +kernel)] at h
  refine ⟨_, h, fun x hx => ?_⟩
  rcases hx with rfl | rfl | rfl | rfl | rfl
  · exact ⟨⟨_, rfl⟩, h0⟩
  · exact ⟨⟨_, rfl⟩, h1⟩
  · exact ⟨⟨_, rfl⟩, h2⟩
  · exact ⟨⟨_, rfl⟩, h3⟩
  · exact ⟨⟨_, rfl⟩, h4⟩
theorem sign_at {v : Value} {i : Nat} (h : SignAt (Str.ofString "ABCDE") i v) : (i = 0 → ∃ u, v = .str (Str.ofString "A") u) ∧ (i = 1 → ∃ u, v = .str (Str.ofString "B") u) ∧ (i = 2 → ∃ u, v = .str (Str.ofString "C") u) ∧ (i = 3 → ∃ u, v = .str (Str.ofString "D") u) ∧ (i = 4 → ∃ u, v = .str (Str.ofString "E") u) := by
  obtain ⟨c, u, hc, rfl⟩ := h
  refine ⟨?_, ?_, ?_, ?_, ?_⟩ <;> (rintro rfl; refine ⟨u, ?_⟩; cases hc; rfl)
end

section
open PySem PySem.W PyProof.Rows PyProof.Rows.LCg PyProof.Rows.LCt
open PySem.Spec PySem.Calls
set_option maxRecDepth 100000
noncomputable def nmAt (i : Nat) : Str := [Str.ofString "A", Str.ofString "B", Str.ofString "C", Str.ofString "D", Str.ofString "E"].getD i (Str.ofString "E")
inductive Five : Nat → List (Str × Value) → Prop
  | nil : Five 0 []
  | snoc {i : Nat} {es : List (Str × Value)} {e : Int} {tk : Tok} : Five i es → 1 ≤ e → e ≤ 5 → Five (i + 1) (es ++ [(nmAt i, .int e tk)])
theorem five_end {es : List (Str × Value)} (h : Five 5 es) : ∃ e0 e1 e2 e3 e4 t0 t1 t2 t3 t4, es = fiveOf (.int e0 t0) (.int e1 t1) (.int e2 t2) (.int e3 t3) (.int e4 t4) ∧ (1 ≤ e0 ∧ e0 ≤ 5) ∧ (1 ≤ e1 ∧ e1 ≤ 5) ∧ (1 ≤ e2 ∧ e2 ≤ 5) ∧ (1 ≤ e3 ∧ e3 ≤ 5) ∧ (1 ≤ e4 ∧ e4 ≤ 5) := by
  cases h with
  | @snoc _ _ e4 t4 h a4 b4 =>
  cases h with
  | @snoc _ _ e3 t3 h a3 b3 =>
  cases h with
  | @snoc _ _ e2 t2 h a2 b2 =>
  cases h with
  | @snoc _ _ e1 t1 h a1 b1 =>
  cases h with
  | @snoc _ _ e0 t0 h a0 b0 =>
  cases h
  exact ⟨e0, e1, e2, e3, e4, t0, t1, t2, t3, t4, rfl, ⟨a0, b0⟩, ⟨a1, b1⟩, ⟨a2, b2⟩, ⟨a3, b3⟩, ⟨a4, b4⟩⟩
theorem sign_nm {v : Value} {i : Nat} (h : SignAt (Str.ofString "ABCDE") i v) (hi : i < 5) : ∃ u, v = .str (nmAt i) u := by
  have q := sign_at h
  have e : i = 0 ∨ i = 1 ∨ i = 2 ∨ i = 3 ∨ i = 4 := by omega
  rcases e with rfl | rfl | rfl | rfl | rfl
  · exact q.1 rfl
  · exact q.2.1 rfl
  · exact q.2.2.1 rfl
  · exact q.2.2.2.1 rfl
  · exact q.2.2.2.2 rfl
theorem PairsIn.tup {news news' : List (Addr × Obj)} {r : List Value} {more : List (Str × Value)} (p : PairsIn news r more) (k : ∀ a o, (a, o) ∈ news → o.cls = .type "tuple" → (a, o) ∈ news') : PairsIn news' r more := by
  induction p with
  | nil => exact .nil
  | cons h1 _ ih => exact .cons (k _ _ h1 rfl) ih
theorem PairsIn.snoc {news : List (Addr × Obj)} {r : List Value} {more : List (Str × Value)} {t : Addr} {k : Str} {u : Tok} {v : Value} {n : Nat} (p : PairsIn news r more) (h : (t, ({ cls := .type "tuple", data := .seq #[.str k u, v] n } : Obj)) ∈ news) : PairsIn news (r ++ [.ref t]) (more ++ [(k, v)]) := by
  induction p with
  | nil => exact .cons h .nil
  | cons h1 _ ih => exact .cons h1 ih
theorem OdsIn.at {news : List (Addr × Obj)} {vs : List Value} {os : List Od} (h : OdsIn news vs os) : ∀ {i : Nat} {v : Value}, vs[i]? = some v → ∃ o, os[i]? = some o ∧ OdIn news v o := by
  induction h with
  | nil => intro i v e; cases e
  | cons h1 _ ih =>
    intro i v e
    cases i with
    | zero => cases e; exact ⟨_, rfl, h1⟩
    | succ i => exact ih e
theorem vars_take {os : List Od} {i : Nat} {o : Od} (h : os[i]? = some o) : vars (os.take (i + 1)) = vars (os.take i) ++ vars [o] := by
  rw [List.take_add_one, h, vars_append]
  rfl
end

section
section
local macro_rules | `(tactic| walk_at "exec For Name Call cons nil") => `(tactic| k_extra "my for")
local macro_rules | `(tactic| walk_at "compareOp NotEq ref ref") => `(tactic| k_extra "my ne")
noncomputable def lawFn : FuncData := fnS (st 68) (Str.ofString "law") (Str.ofString "law") 0 [] .none .none .none .none none .none .none 0
noncomputable def lawBody : List Stmt := match lawFn.body with | .stmts b => b | _ => []
noncomputable def lawScope : Scope := lawFn.scope
noncomputable def lawFor : Stmt := lawBody.getD 6 (.Pass ⟨0, 0, 0, 0⟩)
theorem exch_le (t : Tr) (h : t.leaves ≤ 5) : t.exch.length ≤ 512 := by
  have h1 := exch_length t
  have h2 := t.size_leaves
  have h3 : 2 ^ t.size ≤ 2 ^ 9 := Nat.pow_le_pow_right (by decide) (by omega)
  omega
noncomputable def filJ (Z : List (Addr × Obj)) (os : List Od) (i : Nat) (ys : List Value) (nx : List (Addr × Obj)) : Prop := nx = Z ∧ StrsAre ys (vars (os.take i))
noncomputable def lawJ (t : Tr) (env : Str → Int) (bv : Value) (vd nd : Addr) (news : List (Addr × Obj)) (lp : Addr × Obj) (t1 t2 t3 : Tok) (vs1 : List Value) (m1 : Str → Option Value) (nx : List (Addr × Obj)) : Prop :=
  ∃ (u' : Str → Option Value) (nvs : List Value) (k : Nat) (dn td : List Tr), m1 = (fun y => if y = Str.ofString "found" then some (.int (t.val env) t1) else if y = Str.ofString "needs" then some (.ref nd) else if y = Str.ofString "leaves" then some (.int t.leaves t2) else if y = Str.ofString "best" then some bv else if y = Str.ofString "least" then some (.int t.st.1 t3) else if y = Str.ofString "values" then some (.ref vd) else u' y) ∧
    (nd, listOf (List.toArray nvs) k) ∈ nx ∧ TreesIn nx vs1 td ∧ IntsAre nvs (dn.map Tr.need) ∧ dn ++ td = t.exch ∧ (∀ p ∈ news, p ∈ nx) ∧ lp ∈ nx
set_option maxHeartbeats 8000000 in
theorem law_loop {w : World} {mg mb : Str → Option Value} {mean : ExcName → Option Value} {dp un : Nat} {gd : Option (List Code)} {a : Addr} {ccd : Value} {outer : List Env} {A₀ : Around} {base h₀ : Heap} {L c : Addr} {u : Str → Option Value} {s : Shared} {Q : Flow → Shared → Prop} {E : Value → Shared → Prop}
    {t : Tr} {env : Str → Int} {r9 bv : Value} {vd nd : Addr} {vo : Obj} {news : List (Addr × Obj)} {t1 t2 t3 : Tok}
    (B : Below A₀ base outer h₀) (F : Fr h₀ L s.heap (fun y => if y = Str.ofString "found" then some (.int (t.val env) t1) else if y = Str.ofString "needs" then some (.ref nd) else if y = Str.ofString "leaves" then some (.int t.leaves t2) else if y = Str.ofString "best" then some bv else if y = Str.ofString "least" then some (.int t.st.1 t3) else if y = Str.ofString "values" then some (.ref vd) else if y = Str.ofString "tree" then some r9 else u y))
    (X : (K w.params).In h₀) (N : News h₀ L s.heap ((nd, listOf #[] 0) :: news)) (hnd : ∀ p ∈ news, p.1 ≠ nd) (T : Top V lw mean mg mb h₀) (hd : dp + 200 < recursionLimit) (hu : un + 1600 < cLine) (hE : PassesOwn (model pw w) (ktrTop dp un gd (Str.ofString "law") lawScope L a ccd [(Str.ofString "bag", c)] outer) (envX (Str.ofString "law") lawScope L a ccd [(Str.ofString "bag", c)]) E)
    (hvm : (vd, vo) ∈ news) (hdv : DictVals w vo env) (hvs : (vd == sysModules) = false) (hR : TreeIn news r9 t) (hb : TreeIn news bv t.st.2) (hshp : t.shp) (hlv : t.leaves ≤ 5) (henv : ∀ x, Nm x → 1 ≤ env x ∧ env x ≤ 5)
    (hret : ∀ h' tk' (u' : Str → Option Value) nvs k news', Fr h₀ L h' (fun y => if y = Str.ofString "found" then some (.int (t.val env) t1) else if y = Str.ofString "needs" then some (.ref nd) else if y = Str.ofString "leaves" then some (.int t.leaves t2) else if y = Str.ofString "best" then some bv else if y = Str.ofString "least" then some (.int t.st.1 t3) else if y = Str.ofString "values" then some (.ref vd) else u' y) →
      News h₀ L h' news' → (nd, listOf (List.toArray nvs) k) ∈ news' → IntsAre nvs (t.exch.map Tr.need) → (vd, vo) ∈ news' → TreeIn news' bv t.st.2 → Q .next { s with heap := h', toks := tk' }) :
    wpAny (model pw w) (ktrTop dp un gd (Str.ofString "law") lawScope L a ccd [(Str.ofString "bag", c)] outer) (exec lawFor (envX (Str.ofString "law") lawScope L a ccd [(Str.ofString "bag", c)])) Q E s := by
  conv in lawFor => whnf
  conv in (occs := *) lawScope => all_goals whnf
  have hsl := t.size_leaves
  have hxl := exch_le t hlv
  k_with_none
  k_with "my call" => (
    first
      | (with_reducible show wpAny _ _ (call (Value.ref 441) _) _ _ _)
      | (with_reducible show wpAny _ _ (call (Value.ref 420) _) _ _ _)
      | (with_reducible show wpAny _ _ (call (Value.ref 345) _) _ _ _)
      | (with_reducible show wpAny _ _ (call (Value.ref 448) _) _ _ _)
      | (with_reducible show wpAny _ _ (call (Value.ref 427) _) _ _ _)
    k_here
    refine wait ?_)
  k_with "my ne" => (
    k_here
    k_dflt (first
      | (refine' ne_ints ?k1 ?k2 ?k3 ?k4 ?k5 ?k6 ?_
         (case k1 => k_asm)
         (case k2 => k_mem)
         (case k4 => k_mem)
         (case k3 => exact .cons _ _ .nil)
         (case k5 => exact .cons _ _ .nil)
         (case k6 => (show un + 64 < _; omega)))
      | (refine' ne_strs ?k1 ?k2 ?k3 ?k4 ?k5 ?k7 ?k6 ?_
         (case k1 => k_asm)
         (case k2 => k_mem)
         (case k4 => k_mem)
         (case k3 => assumption)
         (case k5 => assumption)
         (case k7 => assumption)
         (case k6 => (show un + 64 < _; omega)))))
  k_with "my comp" => (
    k_here
    k_dflt (refine LCt.ListComp_T (F₀ := by k_asm) (by with_unfolding_all rfl) (by decide) (by rfl) (by decide) (by rfl) ?_))
  k_with "my iter" => (
    k_here
    k_dflt (
      refine' iter_L rfl ?k1 ?k2 ?k3 ?_
      (case k1 => k_asm)
      (case k2 => k_asm)
      (case k3 => k_mem)
      intro I' l1))
  (with_unfolding_all refine' For_invVF F ?k1 ?k2 ?_ ?ks hE)
  case ks => intro _; rfl
  case k1 => exact rfl
  case k2 => exact rfl
  k_steps
  (refine' keeps_use ?k1 ?k2 ?k3 ?k4 ?k5 ?kK ?kR (exch_ t) ?kd ?ku ?_)
  case k1 => k_asm
  case k2 => k_asm
  case k3 => k_asm
  case k4 => k_asm
  case k5 => k_asm
  case kK => exact rfl
  case kR => exact ⟨_, rfl, hR.mono in1, by omega⟩
  case kd => show dp + t.size < _; omega
  case ku => show un + 8 * t.size < _; omega
  intro r8 news8 h8 tk8 F8 N8 ho8
  obtain ⟨hs8, xa, xvs, xn, rfl, hxm, hxt, hxf⟩ := ho8
  try k_fold
  k_steps
  refine listRest_ind (J := lawJ t env bv vd nd news (xa, listOf (List.toArray xvs) xn) t1 t2 t3) ?done ?turn _ _ _ ?start
  case start =>
    exact ⟨_, [], 0, [], t.exch, canon6 rfl rfl rfl rfl rfl rfl, hs8 _ (.head _), hxt, .nil, rfl, fun p hp => hs8 p (.tail _ hp), hxm⟩
  case done =>
    rintro m1 nx h tk ⟨u', nvs, k, dn, td, rfl, hnm, hts, hin, heq, hsub, -⟩ F1 N1
    cases hts
    rw [List.append_nil] at heq
    subst heq
    k_steps
    exact hret _ _ u' nvs k nx F1 N1 hnm hin (hsub _ hvm) (hb.mono hsub)
  case turn =>
    rintro v1 r1 m1 nx it h tk ⟨u', nvs, k, dn, td, rfl, hnm, hts, hin, heq, hsub, hlp⟩ hc1 F1 N0
    cases hts with
    | @cons _ _ o td ho hts => ?_
    have hmo : o ∈ t.exch := by rw [← heq]; simp
    obtain ⟨eval, elv, eshp, eneed⟩ := exch_facts env t o hmo
    have hoshp := eshp hshp
    have hogood := Tr.good_of henv o hoshp (by omega)
    have hosz := o.size_leaves
    have hvm0 := hsub _ hvm
    k_steps
    (refine' keeps_use ?k1 ?k2 ?k3 ?k4 ?k5 ?kK ?kR (orders_ o) ?kd ?ku ?_)
    case k1 => k_asm
    case k2 => k_asm
    case k3 => k_asm
    case k4 => k_asm
    case k5 => k_asm
    case kK => exact rfl
    case kR => exact ⟨_, _, _, rfl, ho.mono in1, by omega⟩
    case kd => show dp + 20 < _; omega
    case ku => show un + 8 * 20 < _; omega
    intro r7 news7 h7 tk7 F7 N7 ho7
    obtain ⟨hs7, oa, ovs, on, rfl, hom, hod, -⟩ := ho7
    try k_fold
    k_steps
    (refine' keeps_use ?k1 ?k2 ?k3 ?k4 ?k5 ?kK ?kR (done_ ⟨o, env⟩) ?kd ?ku ?_)
    case k1 => k_asm
    case k2 => k_asm
    case k3 => k_asm
    case k4 => k_asm
    case k5 => k_asm
    case kK => exact rfl
    case kR => exact ⟨_, _, _, _, _, rfl, hom, hod, hs7 _ (in1 _ hvm0), hdv, hvs, hogood, by dsimp only; omega⟩
    case kd => show dp + 60 < _; omega
    case ku => show un + 8 * 60 < _; omega
    intro r6 news6 h6 tk6 F6 N6 ho6
    obtain ⟨hs6, ra, pa, pn, tp1, tp2, rfl, hram, hpam⟩ := ho6
    dsimp only at hram hpam
    rw [eval] at hpam
    have hom6 := hs6 _ hom
    have hod6 := hod.mono hs6
    have hov := hod.length
    have hol := o.ords_length
    have hlo : LenIs ovs (2 * (t.leaves : Int) - 1) := ⟨by omega, by omega⟩
    have hup6 : ∀ p ∈ (I', it) :: nx, p ∈ news6 := fun p hp => hs6 p (hs7 p hp)
    clear hs6 hs7 hom hod
    try k_fold
    k_steps
    rename_i fl _ _ _ _
    (refine' tellsN_use ?k1 ?k2 ?k3 ?k4 ?k5 ?kK ?kR (need_ o) trivial ?kd ?ku ?_)
    case k1 => k_asm
    case k2 => k_asm
    case k3 => k_asm
    case k4 => k_asm
    case k5 => k_asm
    case kK => exact rfl
    case kR => exact ⟨_, rfl, ho.mono fun p hp => in1 _ (hup6 _ (in1 _ hp))⟩
    case kd => show dp + o.size < _; omega
    case ku => show un + 8 * o.size < _; omega
    intro r5 tl5 h5 tk5 F5 N5 hl5 ht5 ho5
    obtain ⟨t5, rfl⟩ := ho5
    obtain rfl := ht5
    simp only [List.append_nil] at N5
    try k_fold
    k_steps
    all_goals try (exfalso; omega)
    refine LCt.CompSrcT.ledger (its := ovs.toArray) rfl (by k_asm) (by k_asm) (in1 _ hom6) (by rw [List.size_toArray, sizeLine_eq]; omega) ?_
    intro g9
    refine compRestT_ind (n := ovs.toArray.size) (filJ _ o.ords) ?done ?turn _ 0 _ _ (Nat.zero_add _) ⟨rfl, .nil⟩
    case turn =>
      rintro i ys nx9 hi ⟨hnx, hys⟩ v I oI C oC D m2 h4 tk4 E2 hv hC hx F4 N4 off4
      subst hnx
      obtain ⟨od, hoi, hodi⟩ := hod6.at (show ovs[i]? = some v by simpa using hv)
      have hvt := vars_take hoi
      cases hodi with
      | var hm =>
        k_steps
        exact CompEnd.intro F4 N4 _ (fun p hp => hp) off4 (.inr ⟨_, in1 _ hom6, rfl, _, rfl⟩) ⟨rfl, by rw [hvt]; exact strsAre_append hys (.cons _ _ .nil)⟩
      | two hm =>
        k_steps
        exact CompEnd.intro F4 N4 _ (fun p hp => hp) off4 (.inr ⟨_, in1 _ hom6, rfl, _, rfl⟩) ⟨rfl, by rw [hvt, vars, vars, List.append_nil]; exact hys⟩
    case done =>
      rintro ys nx9 ⟨hnx, hys⟩
      subst hnx
      k_steps
      rename_i D9 _ _ _ N9 _
      have hys2 : StrsAre ys o.names := by
        rw [List.size_toArray, hov, List.take_length, vars_ords] at hys
        exact hys
      have hnm9 := names_nm o hoshp
      (refine' tellsN_use ?k1 ?k2 ?k3 ?k4 ?k5 ?kK ?kR (names_ o) ?ko ?kd ?ku ?_)
      case k1 => k_asm
      case k2 => k_asm
      case k3 => k_asm
      case k4 => k_asm
      case k5 => k_asm
      case kK => exact rfl
      case kR => exact ⟨_, rfl, ho.mono fun p hp => in2 _ (hup6 _ (in1 _ hp))⟩
      case ko => show o.size < 100; omega
      case kd => show dp + o.size < _; omega
      case ku => show un + 8 * o.size < _; omega
      intro r4 tl4 h4 tk4 F4 N4 hl4 _ ho4
      obtain ⟨na, nvs9, nn, rfl, hna, hnv⟩ := ho4
      have hD4 : (D9, listOf (List.toArray ys) ys.length) ∈ ((D9, lst ys) :: (fl, listOf #[.int (t.val env) t1] 0) :: news6) ++ tl4 := .head _
      have hup4 : ∀ p ∈ (I', it) :: nx, p ∈ ((D9, lst ys) :: (fl, listOf #[.int (t.val env) t1] 0) :: news6) ++ tl4 := fun p hp => List.mem_append.mpr (.inl (in2 _ (hup6 _ hp)))
      clear hl4 hup6 hys hom6 hod6 hpam hram N5 N9
      generalize ((D9, lst ys) :: (fl, listOf #[.int (t.val env) t1] 0) :: news6) ++ tl4 = Z4 at *
      refine ne_strs N4 hD4 hys2 hna hnv hnm9 (show un + 64 < _ by omega) ?_
      have hnm4 := hup4 _ (in1 _ hnm)
      have hI4 := hup4 _ (.head _)
      have hlI : ∀ p ∈ (nd, listOf #[] 0) :: news, p.1 < I' := fun p hp => l1 p (hs8 p hp)
      have hnI : nd < I' := hlI _ (.head _)
      have hct : it.cls ≠ .type "tuple" := by rw [hc1]; decide
      have hN5 : News h₀ L h4 ((nd, listOf (List.toArray nvs) k) :: (I', it) :: offA nd (offA I' Z4)) := newsSub N4 fun p hp => by
        rcases List.mem_cons.mp hp with rfl | hp
        · exact hnm4
        rcases List.mem_cons.mp hp with rfl | hp
        · exact hI4
        · exact offA_sub p (offA_sub p hp)
      have htp : ∀ a o, (a, o) ∈ nx → o.cls = .type "tuple" → (a, o) ∈ offA nd (offA I' Z4) := fun a o hm ho => mem_offA (tup_offA N4 hI4 hct _ _ (hup4 _ (in1 _ hm)) ho) (news_ne N4 (hup4 _ (in1 _ hm)) hnm4 (by rw [ho]; show Value.type "tuple" ≠ Value.type "list"; decide))
      have hlp5 : (xa, listOf (List.toArray xvs) xn) ∈ offA nd (offA I' Z4) := mem_offA (mem_offA (hup4 _ (in1 _ hlp)) (Nat.ne_of_lt (l1 _ hxm))) (Nat.ne_of_gt (hxf _ (.head _)))
      have hsub5 : ∀ p ∈ news, p ∈ offA nd (offA I' Z4) := fun p hp => mem_offA (mem_offA (hup4 _ (in1 _ (hsub p hp))) (Nat.ne_of_lt (hlI p (in1 p hp)))) (hnd p hp)
      have hrn : ∀ p ∈ offA nd (offA I' Z4), p.1 ≠ nd := offA_ne
      have hrI : ∀ p ∈ offA nd (offA I' Z4), p.1 ≠ I' := fun p hp => offA_ne p (offA_sub p hp)
      have hts5 := hts.tup htp
      have hnl := hin.length
      have hdl := congrArg List.length heq
      simp only [List.length_append, List.length_cons, List.length_map] at hdl hnl
      clear N4 hup4 hnm4 hI4 hD4 hna htp
      generalize offA nd (offA I' Z4) = rest at *
      replace hnI := ltN hnI
      k_steps
      rename News _ _ _ _ => N8'
      have hoff : ∀ p ∈ rest, p ∈ offA I' ((nd, listOf (List.toArray (nvs ++ [.int o.need tp1])) (k + 1)) :: (I', it) :: rest) := fun p hp => mem_offA (in2 _ hp) (hrI p hp)
      refine unr_end (by k_asm) N8' (.tail _ (.head _)) ⟨hoff _ hlp5, _, nvs ++ [.int o.need tp1], k + 1, dn ++ [o], td, canon6 rfl rfl rfl rfl rfl rfl, mem_offA (.head _) (Nat.ne_of_lt hnI), hts5.tup (fun a o h _ => hoff _ h), ?_, by rw [List.append_assoc]; exact heq, fun p hp => hoff _ (hsub5 p hp), hoff _ hlp5⟩
      rw [List.map_append]
      exact hin.append (.cons _ _ .nil)
end
end

section
section
local macro_rules | `(tactic| walk_at "exec For Name Call cons nil") => `(tactic| k_extra "my for")
local macro_rules | `(tactic| walk_at "call builtin:min") => `(tactic| k_extra "my min")
noncomputable def valJ (ba la c : Addr) (sc : List Value) (oc1 : Obj) (r9 : Value) (t : Tr) (i : Nat) (ys : List Value) (nx : List (Addr × Obj)) : Prop :=
  ∃ spot ts kb es, (ba, listOf #[.ref la, .int spot ts] kb) ∈ nx ∧ (la, listOf (List.toArray sc) 0) ∈ nx ∧ (c, oc1) ∈ nx ∧ TreeIn nx r9 t ∧ PairsIn nx ys es ∧ Five i es ∧ ys.length = i ∧ 0 ≤ spot ∧ spot ≤ 100 + i
set_option maxHeartbeats 8000000 in
theorem law_walk {w : World} {mg mb : Str → Option Value} {mean : ExcName → Option Value} {dp un : Nat} {gd : Option (List Code)} {a : Addr} {ccd : Value} {outer : List Env} {A₀ : Around} {base h₀ : Heap} {L c l : Addr} {u : Str → Option Value} {s : Shared} {vs : List Value} {ns : List Int} {oc : Obj} {Q : Flow → Shared → Prop} {E : Value → Shared → Prop}
    (B : Below A₀ base outer h₀) (F : Fr h₀ L s.heap (fun y => if y = Str.ofString "script" then some (.ref l) else u y)) (X : (K w.params).In h₀) (N : News h₀ L s.heap [(c, oc)]) (hoc : oc.data = .cell none) (T : Top V lw mean mg mb h₀)
    (hL : h₀.IsList l vs.toArray) (hI : IntsAre vs ns) (hlen : ns.length ≤ 63) (hd : dp + 200 < recursionLimit) (hu : un + 1600 < cLine) (hE : PassesOwn (model pw w) (ktrTop dp un gd (Str.ofString "law") lawScope L a ccd [(Str.ofString "bag", c)] outer) (envX (Str.ofString "law") lawScope L a ccd [(Str.ofString "bag", c)]) E) (hret : ∀ h' tk' m', Fr h₀ L h' m' → Q (.ret (.bool true)) { s with heap := h', toks := tk' }) :
    wpAny (model pw w) (ktrTop dp un gd (Str.ofString "law") lawScope L a ccd [(Str.ofString "bag", c)] outer) (execs lawBody (envX (Str.ofString "law") lawScope L a ccd [(Str.ofString "bag", c)])) Q E s := by
  conv in lawBody => whnf
  conv in (occs := *) lawScope => all_goals whnf
  k_with_none
  k_with "my for" => (
    k_here
    refine wait ?_)
  k_with "my call" => (
    first
      | (with_reducible show wpAny _ _ (call (Value.ref 413) _) _ _ _)
      | (with_reducible show wpAny _ _ (call (Value.ref 408) _) _ _ _)
      | (with_reducible show wpAny _ _ (call (Value.ref 434) _) _ _ _)
      | (with_reducible show wpAny _ _ (call (Value.ref 441) _) _ _ _)
      | (with_reducible show wpAny _ _ (call (Value.ref 330) _) _ _ _)
      | (with_reducible show wpAny _ _ (call (Value.ref 420) _) _ _ _)
      | (with_reducible show wpAny _ _ (call (Value.ref 345) _) _ _ _)
      | (with_reducible show wpAny _ _ (call (Value.ref 448) _) _ _ _)
      | (with_reducible show wpAny _ _ (call (Value.ref 427) _) _ _ _)
    k_here
    refine wait ?_)
  k_steps
  rename_i la sc _ hI1 hC1 _ ll1 ba _ ll2 h1 oc1 F1 N1 hc1
  (refine' keeps_use ?k1 ?k2 ?k3 ?k4 ?k5 ?kK ?kR (drawn_ ⟨ba, la⟩) ?kd ?ku ?_)
  case k1 => k_asm
  case k2 => k_asm
  case k3 => k_asm
  case k4 => k_asm
  case k5 => k_asm
  case kK => exact rfl
  case kR => exact ⟨_, _, _, _, _, rfl, .head _, .tail _ (.head _), Nat.ne_of_lt ll2.1, hI1, by rw [hC1]; omega⟩
  case kd => ktr_room
  case ku => ktr_units
  intro r9 news9 h9 tk9 F9 N9 ho9
  obtain ⟨hs9, t, spot, tsb, kb, hR, hshp, hlv, hs0, hs1, hb9⟩ := ho9
  dsimp only at hs9 hb9
  have N2 : News h₀ L h9 ((ba, listOf #[.ref la, .int spot tsb] kb) :: offA ba news9) := newsSub N9 fun p hp => by
    rcases List.mem_cons.mp hp with rfl | hp
    · exact hb9
    · exact offA_sub p hp
  have hrb : ∀ p ∈ offA ba news9, p.1 ≠ ba := offA_ne
  have hla : (la, listOf (List.toArray sc) 0) ∈ offA ba news9 := mem_offA (hs9 _ (.tail _ (.head _)) (Nat.ne_of_lt ll2.1)) (Nat.ne_of_lt ll2.1)
  have hcc : (c, oc1) ∈ offA ba news9 := mem_offA (hs9 _ (.tail _ (.tail _ (.head _))) (Nat.ne_of_lt ll2.2)) (Nat.ne_of_lt ll2.2)
  have hR2 := hR.tup (tup_offA N9 hb9 (show Value.type "list" ≠ _ by decide))
  clear hR N9 hs9 hb9
  generalize offA ba news9 = rest at *
  clear news9
  try k_fold
  k_with "my comp" => (
    k_here
    k_dflt (refine ListComp_W (F₀z := by k_asm) (by with_unfolding_all rfl) (by decide) (by rfl) (by decide) (by rfl) ?_))
  k_steps
  refine' blk_str (y := Str.ofString "ABCDE") rfl ?k0 ?k1 ?k2 ?k3 ?_
  case k0 => decide +kernel
  case k1 => k_asm
  case k2 => k_asm
  case k3 => exact Nat.le_of_ble_eq_true rfl
  intro g'
  refine compRest_ind (n := 5) (valJ ba la c sc oc1 r9 t) ?done ?turn 5 0 _ _ rfl ?start
  case start => exact ⟨_, _, _, [], .head _, .tail _ hla, .tail _ hcc, hR2.mono in1, .nil, .nil, rfl, hs0, by simpa using hs1⟩
  case turn =>
    rintro i ys nx hi ⟨sp, tsp, kb2, es, gba, gla, gcc, gR, gps, gfv, gyl, gs0, gs1⟩ v I oI C oC D m2 h tk2 E2 hv hC hx F5 N5 off5
    obtain ⟨u5, rfl⟩ := sign_nm hv hi
    k_steps
    (refine' keeps_use ?k1 ?k2 ?k3 ?k4 ?k5 ?kK ?kR (got_ ⟨ba, la, sp, 5⟩) ?kd ?ku ?_)
    case k1 => k_asm
    case k2 => k_asm
    case k3 => k_asm
    case k4 => k_asm
    case k5 => k_asm
    case kK => exact rfl
    case kR => exact ⟨_, _, _, _, _, _, rfl, in3 _ gba, in3 _ gla, Nat.ne_of_lt ll2.1, hI1, by rw [hC1]; omega, gs0, by dsimp only; omega, by dsimp only; decide, by dsimp only; decide⟩
    case kd => ktr_room
    case ku => ktr_units
    intro r8 news8 h8 tk8 F8 N8 ho8
    obtain ⟨hs8, x8, t8, ts8, k8, rfl, hx0, hx1, hb8⟩ := ho8
    dsimp only at hs8 hx0 hx1 hb8 ⊢
    have ob := off5.mem _ gba
    have N9 : News h₀ L h8 ((I, oI) :: (C, oC) :: (D, lst ys) :: off3 I C D news8) := newsSub N8 fun p hp => by
      rcases List.mem_cons.mp hp with rfl | hp
      · exact hs8 _ (.head _) (Ne.symm ob.1)
      rcases List.mem_cons.mp hp with rfl | hp
      · exact hs8 _ (.tail _ (.head _)) (Ne.symm ob.2.1)
      rcases List.mem_cons.mp hp with rfl | hp
      · exact hs8 _ (.tail _ (.tail _ (.head _))) (Ne.symm ob.2.2)
      · exact off3_sub p hp
    have up8 : ∀ p ∈ nx, p.1 ≠ ba → p ∈ off3 I C D news8 := fun p hp hne => mem_off3 (hs8 _ (in3 _ hp) hne) (off5.mem p hp)
    have hb9 := mem_off3 hb8 ob
    have Nx : News h₀ L h nx := newsSub N5 in3
    have tp8 : ∀ a o, (a, o) ∈ nx → o.cls = .type "tuple" → (a, o) ∈ off3 I C D news8 := fun a o hm ho => up8 _ hm (news_ne Nx hm gba (by rw [ho]; show Value.type "tuple" ≠ Value.type "list"; decide))
    have gla8 := up8 _ gla (Nat.ne_of_lt ll2.1)
    have gcc8 := up8 _ gcc (Nat.ne_of_lt ll2.2)
    have gR8 := gR.tup tp8
    have gps8 := gps.tup tp8
    have off8 : Off3 I C D (off3 I C D news8) := off3_off
    clear up8 tp8 N8 hs8 hb8 gla gcc gR gps gba off5 Nx ob
    generalize off3 I C D news8 = nx8 at *
    try k_fold
    k_steps
    exact ⟨sp + 1, ts8, k8, _, .tail _ hb9, .tail _ gla8, .tail _ gcc8, gR8.mono in1, (gps8.tup fun a o h _ => .tail _ h).snoc (.head _), .snoc gfv (by omega) (by omega), by rw [List.length_append, gyl]; rfl, by omega, by omega⟩
  case done =>
    rintro ys nx ⟨sp, tsp, kb2, es, gba, gla, gcc, gR, gps, gfv, gyl, gs0, gs1⟩
    k_steps
    rename_i dl h2 tk2 F2 N2 o2
    refine call_dict_pairs (l := dl) (nl := ys.length) rfl F2 N2 (Nat.lt_trans (show sysModules < 453 by decide) (Heap.lt_size (X 453 _ rfl))) (.head _) (gps.tup fun a o h _ => .tail _ h) (by rw [gyl]; exact Nat.le_of_ble_eq_true rfl) ?_
    intro vd h3 tk3 vo F3 N3 hvs hdo ltd
    obtain ⟨e0, e1, e2, e3, e4, t0, t1, t2, t3, t4, rfl, b0, b1, b2, b3, b4⟩ := five_end gfv
    have hdv := five_vals hdo b0 b1 b2 b3 b4
    have henv : ∀ x, Nm x → 1 ≤ envF e0 e1 e2 e3 e4 x ∧ envF e0 e1 e2 e3 e4 x ≤ 5 := fun x hx => by
      obtain ⟨_, _, k⟩ := hdv
      exact (k x hx).2
    generalize envF e0 e1 e2 e3 e4 = env at *
    have hvm : (vd, vo) ∈ (vd, vo) :: (dl, lst ys) :: nx := .head _
    have hRt := gR.mono (news' := (vd, vo) :: (dl, lst ys) :: nx) in2
    clear hdo ltd gba gla gcc gR gps gfv F2 N2 o2
    generalize (vd, vo) :: (dl, lst ys) :: nx = Z at *
    try k_fold
    k_steps
    have hsl := t.size_leaves
    have hsz : t.size ≤ 9 := by omega
    (refine' tellsN_use ?k1 ?k2 ?k3 ?k4 ?k5 ?kK ?kR (str_ t) ?ko ?kd ?ku ?_)
    case k1 => k_asm
    case k2 => k_asm
    case k3 => k_asm
    case k4 => k_asm
    case k5 => k_asm
    case kK => exact rfl
    case kR => exact ⟨_, rfl, hRt⟩
    case ko => show t.size < 100; omega
    case kd => show dp + t.size < _; omega
    case ku => show un + 8 * t.size < _; omega
    intro r7 tl7 h7 tk7 F7 N7 hl7 _ ho7
    obtain ⟨sa, bv, stk, sn, rfl, hsa, hbv⟩ := ho7
    have hvm7 := List.mem_append.mpr (.inl hvm : _ ∨ (vd, vo) ∈ tl7)
    have hRt7 := hRt.mono (news' := Z ++ tl7) fun p hp => List.mem_append.mpr (.inl hp)
    clear hvm hRt hl7
    generalize Z ++ tl7 = Z7 at *
    try k_fold
    k_steps
    (refine' tellsN_use ?k1 ?k2 ?k3 ?k4 ?k5 ?kK ?kR (names_ t) ?ko ?kd ?ku ?_)
    case k1 => k_asm
    case k2 => k_asm
    case k3 => k_asm
    case k4 => k_asm
    case k5 => k_asm
    case kK => exact rfl
    case kR => exact ⟨_, rfl, hRt7⟩
    case ko => show t.size < 100; omega
    case kd => show dp + t.size < _; omega
    case ku => show un + 8 * t.size < _; omega
    intro r6 tl6 h6 tk6 F6 N6 hl6 _ ho6
    obtain ⟨na, nvs, nn, rfl, hna, hnv⟩ := ho6
    have hvm6 := List.mem_append.mpr (.inl hvm7 : _ ∨ (vd, vo) ∈ tl6)
    have hRt6 := hRt7.mono (news' := Z7 ++ tl6) fun p hp => List.mem_append.mpr (.inl hp)
    have hbv6 := hbv.mono (news' := Z7 ++ tl6) fun p hp => List.mem_append.mpr (.inl hp)
    have hll : LenIs nvs (t.leaves : Int) := ⟨by rw [strsAre_length hnv, names_leaves], by omega⟩
    clear hvm7 hRt7 hbv hsa hl6
    generalize Z7 ++ tl6 = Z6 at *
    try k_fold
    k_steps
    have hgood := Tr.good_of henv t hshp hlv
    rename_i qa _ lq _ _ _ Fq Nq _ _
    (refine' keeps_use ?k1 ?k2 ?k3 ?k4 ?k5 ?kK ?kR (worth_ ⟨t, env, qa⟩) ?kd ?ku ?_)
    case k1 => k_asm
    case k2 => k_asm
    case k3 => k_asm
    case k4 => k_asm
    case k5 => k_asm
    case kK => exact rfl
    case kR => exact ⟨_, _, _, _, _, _, _, _, _, _, _, _, _, _, _, _, _, rfl, hRt6.mono in3, by dsimp only; omega, hgood, .tail _ (.head _), .tail _ (.tail _ (.head _)), in3 _ hvm6, hdv, hvs, .head _⟩
    case kd => show dp + 100 < _; omega
    case ku => show un + 8 * 100 < _; omega
    intro r5 news5 h5 tk5 F5 N5 ho5
    obtain ⟨hs5, xs5, n5, t5, rfl, -, -⟩ := ho5
    dsimp only at hs5
    have up5 : ∀ a o, (a, o) ∈ Z6 → o.cls = .type "tuple" → (a, o) ∈ news5 := fun a o hm ho => hs5 _ (in3 _ hm) (news_ne Nq (in3 _ hm) (.head _) (by rw [ho]; show Value.type "tuple" ≠ Value.type "list"; decide))
    have hvm5 := hs5 _ (in3 _ hvm6) (news_ne Nq (in3 _ hvm6) (.head _) (by rw [hdv.cls]; show Value.type "dict" ≠ Value.type "list"; decide))
    have hRt5 := hRt6.tup up5
    have hbv5 := hbv6.tup up5
    clear hs5 up5 hRt6 hbv6 hna hvm6
    dsimp only
    try k_fold
    k_steps
    rename_i nd _ ld _ _ _ _ _ _ F4 N4
    have N4' : News _ _ _ ((nd, listOf #[] 0) :: news5) := newsSub N4 in1
    refine law_loop B F4 X N4' (fun p hp => Nat.ne_of_lt (ld p hp)) T hd hu hE hvm5 hdv hvs hRt5 hbv5 hshp hlv henv ?_
    intro h8 tk8 u8 mvs km news8 F8 N8 hnm8 hin8 hvm8 hbv8
    clear N4 N4' F4 hvm5 hRt5 hbv5
    dsimp only
    try k_fold
    k_steps
    obtain ⟨bval, blv, bshp, -⟩ := exch_facts env t t.st.2 (st_mem t)
    have bshp2 := bshp hshp
    have bgood := Tr.good_of henv t.st.2 bshp2 (by omega)
    have bsz := t.st.2.size_leaves
    have bneed := st_need t
    rename_i qb _ lqb _ _ _ _ _ _ _ Fb Nb
    (refine' keeps_use ?k1 ?k2 ?k3 ?k4 ?k5 ?kK ?kR (worth_ ⟨t.st.2, env, qb⟩) ?kd ?ku ?_)
    case k1 => k_asm
    case k2 => k_asm
    case k3 => k_asm
    case k4 => k_asm
    case k5 => k_asm
    case kK => exact rfl
    case kR => exact ⟨_, _, _, _, _, _, _, _, _, _, _, _, _, _, _, _, _, rfl, hbv8.mono in3, by dsimp only; omega, bgood, .tail _ (.head _), .tail _ (.tail _ (.head _)), in3 _ hvm8, hdv, hvs, .head _⟩
    case kd => show dp + 100 < _; omega
    case ku => show un + 8 * 100 < _; omega
    intro ra newsa ha tka Fa Na hoa
    obtain ⟨hsa, xsa, na2, ta2, rfl, hqa, hxa⟩ := hoa
    dsimp only at hsa hqa hxa ⊢
    rw [bval]
    have hx9 := hsa _ (.tail _ (.head _)) (Nat.ne_of_lt lqb.1)
    have hd9 := hsa _ (.tail _ (.tail _ (.head _))) (Nat.ne_of_lt lqb.2.1)
    have hnm9 := hsa _ (in3 _ hnm8) (Nat.ne_of_lt (ktn_ltOf lqb.2.2 _ hnm8))
    have hbv9 := hbv8.tup (news' := newsa) fun a o hm _ => hsa _ (in3 _ hm) (Nat.ne_of_lt (ktn_ltOf lqb.2.2 _ hm))
    clear hsa Nb Fb hbv8 hnm8 hvm8
    try k_fold
    k_steps
    all_goals try (exfalso; omega)
    have hnmb := names_nm t.st.2 bshp2
    (refine' tellsN_use ?k1 ?k2 ?k3 ?k4 ?k5 ?kK ?kR (names_ t.st.2) ?ko ?kd ?ku ?_)
    case k1 => k_asm
    case k2 => k_asm
    case k3 => k_asm
    case k4 => k_asm
    case k5 => k_asm
    case kK => exact rfl
    case kR => exact ⟨_, rfl, hbv9⟩
    case ko => show t.st.2.size < 100; omega
    case kd => show dp + t.st.2.size < _; omega
    case ku => show un + 8 * t.st.2.size < _; omega
    intro rb tlb hb tkb Fb Nb hlb _ hob
    obtain ⟨nb, nvb, nnb, rfl, hnb, hnvb⟩ := hob
    have hqb := List.mem_append.mpr (.inl hqa : _ ∨ _ ∈ tlb)
    have hnmb2 := List.mem_append.mpr (.inl hnm9 : _ ∨ _ ∈ tlb)
    have hbvb := hbv9.mono (news' := newsa ++ tlb) fun p hp => List.mem_append.mpr (.inl hp)
    clear hx9 hd9 hqa hnm9 hbv9 hlb
    generalize newsa ++ tlb = Zb at *
    refine ne_strs Nb hqb hxa hnb hnvb hnmb (show un + 64 < _ by omega) ?_
    have hmin1 : t.st.1 ∈ t.exch.map Tr.need := List.mem_map.mpr ⟨_, st_mem t, bneed⟩
    have hmin2 : ∀ x ∈ t.exch.map Tr.need, t.st.1 ≤ x := fun x hx => by
      obtain ⟨t', h1, rfl⟩ := List.mem_map.mp hx
      exact (exch_facts env t t' h1).2.2.2
    k_with "my min" => (
      k_here
      refine min_L (by k_asm) (by k_asm) hnmb2 hin8 hmin1 hmin2 rfl ?_
      intro h' t' tk' F' N')
    k_steps
    all_goals try (exfalso; omega)
    have hst1 := st_pos t
    have hstl := st_leaves t
    have hst3 : t.st.1 ≤ 3 := by
      refine Int.not_lt.mp fun h => ?_
      have h2 : 2 ^ 3 ≤ 2 ^ (t.st.1.toNat - 1) := Nat.pow_le_pow_right (by decide) (by omega)
      omega
    (refine' tellsN_use ?k1 ?k2 ?k3 ?k4 ?k5 ?kK ?kR (need_ t.st.2) trivial ?kd ?ku ?_)
    case k1 => k_asm
    case k2 => k_asm
    case k3 => k_asm
    case k4 => k_asm
    case k5 => k_asm
    case kK => exact rfl
    case kR => exact ⟨_, rfl, hbvb⟩
    case kd => show dp + t.st.2.size < _; omega
    case ku => show un + 8 * t.st.2.size < _; omega
    intro rc tlc hc tkc Fc Nc hlc htc hoc
    obtain ⟨tc, rfl⟩ := hoc
    obtain rfl := htc
    simp only [List.append_nil] at Nc
    rw [bneed]
    k_steps
    all_goals try (exfalso; omega)
    have hpow : decide ((2 : Int) ^ (t.st.1 - 1).toNat ≤ (t.leaves : Int)) = true := by
      have e1 : ((2 ^ (t.st.1.toNat - 1) : Nat) : Int) ≤ (t.leaves : Int) := Int.ofNat_le.mpr hstl
      rw [show (t.st.1 - 1).toNat = t.st.1.toNat - 1 by omega]
      exact decide_eq_true (by simpa using e1)
    rw [hpow]
    exact hret _ _ _ Fc
end
end

section
section
theorem fr_canon {h₀ h : Heap} {L : Addr} {m : Str → Option Value} {a : Str} {va : Value} (F : Fr h₀ L h m) (e : m a = some va) : Fr h₀ L h (fun y => if y = a then some va else m y) := by
  rw [← canon1 e]
  exact F
set_option maxHeartbeats 8000000 in
theorem law_ : PySem.Challenge.rw_xm0021_01.Holds := hd fun d kwd e => by
  obtain ⟨rfl, rfl⟩ := Prod.mk.inj (Option.some.inj (e.symm.trans (rfl : defOf V PySem.Challenge.rw_xm0021_01.row.name = some (_, _))))
  clear e
  k_go0
  rename_i KX _ _ _ T _ _ _ _ _ _ _ _ _ _ hsh _ _ _ _ _ _ _ _ _ hL _ _ _ hI _ hc _ K0 _ h1 tk1 F ob hob N0 X0
  rw [lw_] at T
  with_unfolding_all refine law_walk (oc := ob) K0 (fr_canon (a := Str.ofString "script") F rfl) KX N0 hob T hL hI ?hlen ?hd ?hu ?hE ?hret
  case hlen => omega
  case hd => decide
  case hu => decide
  case hE => passes_own
  case hret =>
    intro h' tk' m' F'
    refine goodW_bool F' (by assumption) (raisesW_false ?_) ?_
    · wrow_none_raised
    · wrow_post
end
end

end Mine

theorem PySem.Challenge.cw_xm0021_01_holds : PySem.Challenge.rw_xm0021_01.Holds := by
  exact Mine.law_
