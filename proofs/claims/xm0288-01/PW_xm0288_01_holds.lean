import PyProof.Rows.All
import Wide.All
import OpenK.AllK
import Wide.FinOn
import KE.KAnyBase
import Lean
import PySem.Challenge.RW_xm0288_01
open PySem PySem.W PySem.Calls PyProof.Rows
set_option Elab.async false
set_option maxRecDepth 100000
set_option maxHeartbeats 8000000
noncomputable section
namespace Mine.Sd
abbrev pp : Program := PySem.Challenge.pw_xm0288_01
abbrev L : OpenLaw := PySem.Challenge.rw_xm0288_01
theorem b1 : sreFenced pp.main = true := by kernel_rfl
theorem b2 : ((moduleNames pp.main.body).isEmpty || lookedIntoSs (moduleNames pp.main.body) pp.main.body) = true := by kernel_rfl
theorem b3 : namesResolve pp = true := by kernel_rfl
theorem b4 : pp.boundNames.all (fun n => !worldNames.contains n) = true := by kernel_rfl
theorem b5 : noRoadLSs { strict := !(importedModules pp.main.body).all cThrough.contains, foot := none, bare := (["vars", "dir", "locals"] : List Str).filter (readsOut pp pp.main.body) } pp.main.body = true := by kernel_rfl
theorem b6 : (namesMeet pp pp.main.body fun _ n => attrL n) = true := by kernel_rfl
theorem looks : looksOpen pp = true := by
  unfold looksOpen
  exact look_both (look_both (look_both (look_both (look_both b1 b2) b3) b4) b5) b6
theorem part : L.row.partSaid = true := by
  unfold OpenRow.partSaid
  iterate 13 (refine look_both ?_ (by kernel_rfl))
  exact looks
theorem rws : L.row.wellSaid = true := by
  unfold OpenRow.wellSaid
  iterate 2 (refine look_both ?_ (by kernel_rfl))
  exact part
theorem said : L.wellSaid = true := by
  unfold OpenLaw.wellSaid
  iterate 18 (refine look_both ?_ (by kernel_rfl))
  exact rws
end Mine.Sd
end
open PySem PySem.W PySem.Calls PyProof.Rows
set_option Elab.async false
set_option maxRecDepth 100000
set_option maxHeartbeats 8000000
set_option linter.unusedVariables false
noncomputable section
namespace Mine.Hd
/- printed by wip/gen/GenHead.lean -/
noncomputable def body : List Stmt := PySem.Challenge.pw_xm0288_01.main.body
noncomputable def nth : List Stmt → Nat → Stmt
  | s :: _, 0 => s
  | _ :: r, n + 1 => nth r n
  | [], _ => .Pass ⟨0, 0, 0, 0⟩
noncomputable def st (i : Nat) : Stmt := nth body i
noncomputable def fnArgs : Stmt → Arguments
  | .FunctionDef _ a _ _ _ _ _ _ _ _ => a
  | _ => ⟨[], [], none, [], [], none, []⟩
noncomputable def fnBody : Stmt → List Stmt
  | .FunctionDef _ _ b _ _ _ _ _ _ _ => b
  | _ => []
noncomputable def fnScope : Stmt → Scope
  | .FunctionDef _ _ _ _ _ _ s _ _ _ => s
  | _ => ⟨.module, [], false, false, []⟩
noncomputable def clsBody : Stmt → List Stmt
  | .ClassDef _ _ _ b _ _ _ _ _ _ _ => b
  | _ => []
noncomputable def env_ : Env := { scope := PySem.Challenge.pw_xm0288_01.main.scope, locals := mainNs, globals := mainNs, cells := [], code := (.ref 13), frame := some 14 }
noncomputable def cE : Code := .body (behindTheImports PySem.Challenge.pw_xm0288_01) env_
abbrev B_ : List Frame := [topFrame ⟨0, 0, 0, 0⟩]
abbrev ann_ : Option Value := (some (.ref 6))
abbrev E : BT := .nil
abbrev N (o : Obj) (l r : BT) : BT := .node o l r
noncomputable def e0_0 : Params → List DictEntry := fun P => [⟨PyData.keyHash P "__name__", .str "__name__" 1, (.str "builtins" 160)⟩, ⟨PyData.keyHash P "__doc__", .str "__doc__" 2, (.builtin "builtins.__doc__:str#opaque")⟩, ⟨PyData.keyHash P "__package__", .str "__package__" 3, (.builtin "builtins.__package__:str#opaque")⟩, ⟨PyData.keyHash P "__loader__", .str "__loader__" 4, (.builtin "builtins.__loader__:shared#opaque")⟩, ⟨PyData.keyHash P "__spec__", .str "__spec__" 5, (.builtin "builtins.__spec__#opaque")⟩, ⟨PyData.keyHash P "__build_class__", .str "__build_class__" 6, (.builtin "__build_class__")⟩, ⟨PyData.keyHash P "__import__", .str "__import__" 7, (.builtin "__import__")⟩, ⟨PyData.keyHash P "abs", .str "abs" 8, (.builtin "abs")⟩, ⟨PyData.keyHash P "all", .str "all" 9, (.builtin "all")⟩, ⟨PyData.keyHash P "any", .str "any" 10, (.builtin "any")⟩, ⟨PyData.keyHash P "ascii", .str "ascii" 11, (.builtin "ascii")⟩, ⟨PyData.keyHash P "bin", .str "bin" 12, (.builtin "bin")⟩, ⟨PyData.keyHash P "breakpoint", .str "breakpoint" 13, (.builtin "breakpoint")⟩, ⟨PyData.keyHash P "callable", .str "callable" 14, (.builtin "callable")⟩, ⟨PyData.keyHash P "chr", .str "chr" 15, (.builtin "chr")⟩, ⟨PyData.keyHash P "compile", .str "compile" 16, (.builtin "compile")⟩]
noncomputable def e0_1 : Params → List DictEntry := fun P => [⟨PyData.keyHash P "delattr", .str "delattr" 17, (.builtin "delattr")⟩, ⟨PyData.keyHash P "dir", .str "dir" 18, (.builtin "dir")⟩, ⟨PyData.keyHash P "divmod", .str "divmod" 19, (.builtin "divmod")⟩, ⟨PyData.keyHash P "eval", .str "eval" 20, (.builtin "eval")⟩, ⟨PyData.keyHash P "exec", .str "exec" 21, (.builtin "exec")⟩, ⟨PyData.keyHash P "format", .str "format" 22, (.builtin "format")⟩, ⟨PyData.keyHash P "getattr", .str "getattr" 23, (.builtin "getattr")⟩, ⟨PyData.keyHash P "globals", .str "globals" 24, (.builtin "globals")⟩, ⟨PyData.keyHash P "hasattr", .str "hasattr" 25, (.builtin "hasattr")⟩, ⟨PyData.keyHash P "hash", .str "hash" 26, (.builtin "hash")⟩, ⟨PyData.keyHash P "hex", .str "hex" 27, (.builtin "hex")⟩, ⟨PyData.keyHash P "id", .str "id" 28, (.builtin "id")⟩, ⟨PyData.keyHash P "input", .str "input" 29, (.builtin "input")⟩, ⟨PyData.keyHash P "isinstance", .str "isinstance" 30, (.builtin "isinstance")⟩, ⟨PyData.keyHash P "issubclass", .str "issubclass" 31, (.builtin "issubclass")⟩, ⟨PyData.keyHash P "iter", .str "iter" 32, (.builtin "iter")⟩]
noncomputable def e0_2 : Params → List DictEntry := fun P => [⟨PyData.keyHash P "aiter", .str "aiter" 33, (.builtin "aiter")⟩, ⟨PyData.keyHash P "len", .str "len" 34, (.builtin "len")⟩, ⟨PyData.keyHash P "locals", .str "locals" 35, (.builtin "locals")⟩, ⟨PyData.keyHash P "max", .str "max" 36, (.builtin "max")⟩, ⟨PyData.keyHash P "min", .str "min" 37, (.builtin "min")⟩, ⟨PyData.keyHash P "next", .str "next" 38, (.builtin "next")⟩, ⟨PyData.keyHash P "anext", .str "anext" 39, (.builtin "anext")⟩, ⟨PyData.keyHash P "oct", .str "oct" 40, (.builtin "oct")⟩, ⟨PyData.keyHash P "ord", .str "ord" 41, (.builtin "ord")⟩, ⟨PyData.keyHash P "pow", .str "pow" 42, (.builtin "pow")⟩, ⟨PyData.keyHash P "print", .str "print" 43, (.builtin "print")⟩, ⟨PyData.keyHash P "repr", .str "repr" 44, (.builtin "repr")⟩, ⟨PyData.keyHash P "round", .str "round" 45, (.builtin "round")⟩, ⟨PyData.keyHash P "setattr", .str "setattr" 46, (.builtin "setattr")⟩, ⟨PyData.keyHash P "sorted", .str "sorted" 47, (.builtin "sorted")⟩, ⟨PyData.keyHash P "sum", .str "sum" 48, (.builtin "sum")⟩]
noncomputable def e0_3 : Params → List DictEntry := fun P => [⟨PyData.keyHash P "vars", .str "vars" 49, (.builtin "vars")⟩, ⟨PyData.keyHash P "None", .str "None" 50, .none⟩, ⟨PyData.keyHash P "Ellipsis", .str "Ellipsis" 51, .ellipsis⟩, ⟨PyData.keyHash P "NotImplemented", .str "NotImplemented" 52, .notImplemented⟩, ⟨PyData.keyHash P "False", .str "False" 53, (.bool false)⟩, ⟨PyData.keyHash P "True", .str "True" 54, (.bool true)⟩, ⟨PyData.keyHash P "bool", .str "bool" 55, (.type "bool")⟩, ⟨PyData.keyHash P "memoryview", .str "memoryview" 56, (.type "memoryview")⟩, ⟨PyData.keyHash P "bytearray", .str "bytearray" 57, (.type "bytearray")⟩, ⟨PyData.keyHash P "bytes", .str "bytes" 58, (.type "bytes")⟩, ⟨PyData.keyHash P "classmethod", .str "classmethod" 59, (.type "classmethod")⟩, ⟨PyData.keyHash P "complex", .str "complex" 60, (.type "complex")⟩, ⟨PyData.keyHash P "dict", .str "dict" 61, (.type "dict")⟩, ⟨PyData.keyHash P "enumerate", .str "enumerate" 62, (.type "enumerate")⟩, ⟨PyData.keyHash P "filter", .str "filter" 63, (.type "filter")⟩, ⟨PyData.keyHash P "float", .str "float" 64, (.type "float")⟩]
noncomputable def e0_4 : Params → List DictEntry := fun P => [⟨PyData.keyHash P "frozenset", .str "frozenset" 65, (.type "frozenset")⟩, ⟨PyData.keyHash P "property", .str "property" 66, (.type "property")⟩, ⟨PyData.keyHash P "int", .str "int" 67, (.type "int")⟩, ⟨PyData.keyHash P "list", .str "list" 68, (.type "list")⟩, ⟨PyData.keyHash P "map", .str "map" 69, (.type "map")⟩, ⟨PyData.keyHash P "object", .str "object" 70, (.type "object")⟩, ⟨PyData.keyHash P "range", .str "range" 71, (.type "range")⟩, ⟨PyData.keyHash P "reversed", .str "reversed" 72, (.type "reversed")⟩, ⟨PyData.keyHash P "set", .str "set" 73, (.type "set")⟩, ⟨PyData.keyHash P "slice", .str "slice" 74, (.type "slice")⟩, ⟨PyData.keyHash P "staticmethod", .str "staticmethod" 75, (.type "staticmethod")⟩, ⟨PyData.keyHash P "str", .str "str" 76, (.type "str")⟩, ⟨PyData.keyHash P "super", .str "super" 77, (.type "super")⟩, ⟨PyData.keyHash P "tuple", .str "tuple" 78, (.type "tuple")⟩, ⟨PyData.keyHash P "type", .str "type" 79, (.type "type")⟩, ⟨PyData.keyHash P "zip", .str "zip" 80, (.type "zip")⟩]
noncomputable def e0_5 : Params → List DictEntry := fun P => [⟨PyData.keyHash P "__debug__", .str "__debug__" 81, (.bool true)⟩, ⟨PyData.keyHash P "BaseException", .str "BaseException" 82, (.type "BaseException")⟩, ⟨PyData.keyHash P "BaseExceptionGroup", .str "BaseExceptionGroup" 83, (.type "BaseExceptionGroup")⟩, ⟨PyData.keyHash P "Exception", .str "Exception" 84, (.type "Exception")⟩, ⟨PyData.keyHash P "GeneratorExit", .str "GeneratorExit" 85, (.type "GeneratorExit")⟩, ⟨PyData.keyHash P "KeyboardInterrupt", .str "KeyboardInterrupt" 86, (.type "KeyboardInterrupt")⟩, ⟨PyData.keyHash P "SystemExit", .str "SystemExit" 87, (.type "SystemExit")⟩, ⟨PyData.keyHash P "ArithmeticError", .str "ArithmeticError" 88, (.type "ArithmeticError")⟩, ⟨PyData.keyHash P "AssertionError", .str "AssertionError" 89, (.type "AssertionError")⟩, ⟨PyData.keyHash P "AttributeError", .str "AttributeError" 90, (.type "AttributeError")⟩, ⟨PyData.keyHash P "BufferError", .str "BufferError" 91, (.type "BufferError")⟩, ⟨PyData.keyHash P "EOFError", .str "EOFError" 92, (.type "EOFError")⟩, ⟨PyData.keyHash P "ImportError", .str "ImportError" 93, (.type "ImportError")⟩, ⟨PyData.keyHash P "LookupError", .str "LookupError" 94, (.type "LookupError")⟩, ⟨PyData.keyHash P "MemoryError", .str "MemoryError" 95, (.type "MemoryError")⟩, ⟨PyData.keyHash P "NameError", .str "NameError" 96, (.type "NameError")⟩]
noncomputable def e0_6 : Params → List DictEntry := fun P => [⟨PyData.keyHash P "OSError", .str "OSError" 97, (.type "OSError")⟩, ⟨PyData.keyHash P "ReferenceError", .str "ReferenceError" 98, (.type "ReferenceError")⟩, ⟨PyData.keyHash P "RuntimeError", .str "RuntimeError" 99, (.type "RuntimeError")⟩, ⟨PyData.keyHash P "StopAsyncIteration", .str "StopAsyncIteration" 100, (.type "StopAsyncIteration")⟩, ⟨PyData.keyHash P "StopIteration", .str "StopIteration" 101, (.type "StopIteration")⟩, ⟨PyData.keyHash P "SyntaxError", .str "SyntaxError" 102, (.type "SyntaxError")⟩, ⟨PyData.keyHash P "SystemError", .str "SystemError" 103, (.type "SystemError")⟩, ⟨PyData.keyHash P "TypeError", .str "TypeError" 104, (.type "TypeError")⟩, ⟨PyData.keyHash P "ValueError", .str "ValueError" 105, (.type "ValueError")⟩, ⟨PyData.keyHash P "Warning", .str "Warning" 106, (.type "Warning")⟩, ⟨PyData.keyHash P "FloatingPointError", .str "FloatingPointError" 107, (.type "FloatingPointError")⟩, ⟨PyData.keyHash P "OverflowError", .str "OverflowError" 108, (.type "OverflowError")⟩, ⟨PyData.keyHash P "ZeroDivisionError", .str "ZeroDivisionError" 109, (.type "ZeroDivisionError")⟩, ⟨PyData.keyHash P "BytesWarning", .str "BytesWarning" 110, (.type "BytesWarning")⟩, ⟨PyData.keyHash P "DeprecationWarning", .str "DeprecationWarning" 111, (.type "DeprecationWarning")⟩, ⟨PyData.keyHash P "EncodingWarning", .str "EncodingWarning" 112, (.type "EncodingWarning")⟩]
noncomputable def e0_7 : Params → List DictEntry := fun P => [⟨PyData.keyHash P "FutureWarning", .str "FutureWarning" 113, (.type "FutureWarning")⟩, ⟨PyData.keyHash P "ImportWarning", .str "ImportWarning" 114, (.type "ImportWarning")⟩, ⟨PyData.keyHash P "PendingDeprecationWarning", .str "PendingDeprecationWarning" 115, (.type "PendingDeprecationWarning")⟩, ⟨PyData.keyHash P "ResourceWarning", .str "ResourceWarning" 116, (.type "ResourceWarning")⟩, ⟨PyData.keyHash P "RuntimeWarning", .str "RuntimeWarning" 117, (.type "RuntimeWarning")⟩, ⟨PyData.keyHash P "SyntaxWarning", .str "SyntaxWarning" 118, (.type "SyntaxWarning")⟩, ⟨PyData.keyHash P "UnicodeWarning", .str "UnicodeWarning" 119, (.type "UnicodeWarning")⟩, ⟨PyData.keyHash P "UserWarning", .str "UserWarning" 120, (.type "UserWarning")⟩, ⟨PyData.keyHash P "BlockingIOError", .str "BlockingIOError" 121, (.type "BlockingIOError")⟩, ⟨PyData.keyHash P "ChildProcessError", .str "ChildProcessError" 122, (.type "ChildProcessError")⟩, ⟨PyData.keyHash P "ConnectionError", .str "ConnectionError" 123, (.type "ConnectionError")⟩, ⟨PyData.keyHash P "FileExistsError", .str "FileExistsError" 124, (.type "FileExistsError")⟩, ⟨PyData.keyHash P "FileNotFoundError", .str "FileNotFoundError" 125, (.type "FileNotFoundError")⟩, ⟨PyData.keyHash P "InterruptedError", .str "InterruptedError" 126, (.type "InterruptedError")⟩, ⟨PyData.keyHash P "IsADirectoryError", .str "IsADirectoryError" 127, (.type "IsADirectoryError")⟩, ⟨PyData.keyHash P "NotADirectoryError", .str "NotADirectoryError" 128, (.type "NotADirectoryError")⟩]
noncomputable def e0_8 : Params → List DictEntry := fun P => [⟨PyData.keyHash P "PermissionError", .str "PermissionError" 129, (.type "PermissionError")⟩, ⟨PyData.keyHash P "ProcessLookupError", .str "ProcessLookupError" 130, (.type "ProcessLookupError")⟩, ⟨PyData.keyHash P "TimeoutError", .str "TimeoutError" 131, (.type "TimeoutError")⟩, ⟨PyData.keyHash P "IndentationError", .str "IndentationError" 132, (.type "IndentationError")⟩, ⟨PyData.keyHash P "_IncompleteInputError", .str "_IncompleteInputError" 133, (.type "_IncompleteInputError")⟩, ⟨PyData.keyHash P "IndexError", .str "IndexError" 134, (.type "IndexError")⟩, ⟨PyData.keyHash P "KeyError", .str "KeyError" 135, (.type "KeyError")⟩, ⟨PyData.keyHash P "ModuleNotFoundError", .str "ModuleNotFoundError" 136, (.type "ModuleNotFoundError")⟩, ⟨PyData.keyHash P "NotImplementedError", .str "NotImplementedError" 137, (.type "NotImplementedError")⟩, ⟨PyData.keyHash P "PythonFinalizationError", .str "PythonFinalizationError" 138, (.type "PythonFinalizationError")⟩, ⟨PyData.keyHash P "RecursionError", .str "RecursionError" 139, (.type "RecursionError")⟩, ⟨PyData.keyHash P "UnboundLocalError", .str "UnboundLocalError" 140, (.type "UnboundLocalError")⟩, ⟨PyData.keyHash P "UnicodeError", .str "UnicodeError" 141, (.type "UnicodeError")⟩, ⟨PyData.keyHash P "BrokenPipeError", .str "BrokenPipeError" 142, (.type "BrokenPipeError")⟩, ⟨PyData.keyHash P "ConnectionAbortedError", .str "ConnectionAbortedError" 143, (.type "ConnectionAbortedError")⟩, ⟨PyData.keyHash P "ConnectionRefusedError", .str "ConnectionRefusedError" 144, (.type "ConnectionRefusedError")⟩]
noncomputable def e0_9 : Params → List DictEntry := fun P => [⟨PyData.keyHash P "ConnectionResetError", .str "ConnectionResetError" 145, (.type "ConnectionResetError")⟩, ⟨PyData.keyHash P "TabError", .str "TabError" 146, (.type "TabError")⟩, ⟨PyData.keyHash P "UnicodeDecodeError", .str "UnicodeDecodeError" 147, (.type "UnicodeDecodeError")⟩, ⟨PyData.keyHash P "UnicodeEncodeError", .str "UnicodeEncodeError" 148, (.type "UnicodeEncodeError")⟩, ⟨PyData.keyHash P "UnicodeTranslateError", .str "UnicodeTranslateError" 149, (.type "UnicodeTranslateError")⟩, ⟨PyData.keyHash P "ExceptionGroup", .str "ExceptionGroup" 150, (.type "ExceptionGroup")⟩, ⟨PyData.keyHash P "EnvironmentError", .str "EnvironmentError" 151, (.type "OSError")⟩, ⟨PyData.keyHash P "IOError", .str "IOError" 152, (.type "OSError")⟩, ⟨PyData.keyHash P "open", .str "open" 153, (.builtin "open")⟩, ⟨PyData.keyHash P "quit", .str "quit" 154, (.builtin "builtins.quit#opaque")⟩, ⟨PyData.keyHash P "exit", .str "exit" 155, (.builtin "builtins.exit#opaque")⟩, ⟨PyData.keyHash P "copyright", .str "copyright" 156, (.builtin "builtins.copyright#opaque")⟩, ⟨PyData.keyHash P "credits", .str "credits" 157, (.builtin "builtins.credits#opaque")⟩, ⟨PyData.keyHash P "license", .str "license" 158, (.builtin "builtins.license#opaque")⟩, ⟨PyData.keyHash P "help", .str "help" 159, (.builtin "builtins.help#opaque")⟩]
noncomputable def o0_0 : Params → Obj := fun P => ⟨(.type "dict"), none, .dict (e0_0 P ++ (e0_1 P ++ (e0_2 P ++ (e0_3 P ++ (e0_4 P ++ (e0_5 P ++ (e0_6 P ++ (e0_7 P ++ (e0_8 P ++ (e0_9 P ++ [])))))))))).toArray 159, #[]⟩
noncomputable def t0_0 : Params → Obj := o0_0
noncomputable def bh : Params → Heap := fun P => ⟨Array.mk [o0_0 P, boot_o_1 P, boot_o_2 P, boot_o_3 P, boot_o_4 P, boot_o_5 P, boot_o_6 P, boot_o_7 P, boot_o_8 P, boot_o_9 P, boot_o_10 P], {}⟩
theorem boot_eq : boot_heap = bh := by kernel_rfl
noncomputable def o11_0 : Params → Obj := fun P => ⟨(.type "tuple"), none, (.seq #[] 0), #[]⟩
noncomputable def o12_0 : Params → Obj := fun P => ⟨.none, none, (.fields #[]), #[]⟩
noncomputable def o13_0 : Params → Obj := fun P => ⟨(.type "code"), none, (.fields #[.str "<module>" 182, .str "<module>" 183, .str "/claim/cut.py" 184, .int 1 0, .int 0 0, .int 0 0, .int 0 0, .int 0 0, .ref 11, .bool false, .int 181 0, .ref 12, .none, .none, .none, .none, .int 185 0, .int 1 0, .str "/claim/cut.py" 186]), #[]⟩
noncomputable def o14_0 : Params → Obj := fun P => ⟨(.type "frame"), none, .plain, #[(some (.ref 13)), (some (.ref 3)), (some (.ref 3)), none, (some (.str "__main__" 164)), none, (some (.ref 0))]⟩
noncomputable def t11_0 : Params → Obj := o11_0
noncomputable def t13_0 : Params → Obj := o13_0
noncomputable def t14_0 : Params → Obj := o14_0
noncomputable def Ha : Params → Heap := fun P => ⟨Array.mk [t0_0 P, boot_o_1 P, boot_o_2 P, boot_o_3 P, boot_o_4 P, boot_o_5 P, boot_o_6 P, boot_o_7 P, boot_o_8 P, boot_o_9 P, boot_o_10 P, t11_0 P, o12_0 P, t13_0 P, t14_0 P], {}⟩
noncomputable def Lpre : World → OsState → Option (Shared × Thread) := fun w os => topGo treeTable PySem.Challenge.pw_xm0288_01 w 11 ann_ 12 ⟨bh w.params, Array.mk [], boot_drawn, boot_toks, os⟩ (topStub PySem.Challenge.pw_xm0288_01)
noncomputable def Rpre : World → OsState → Option (Shared × Thread) := fun w os => some (⟨Ha w.params, Array.mk [], boot_drawn, 187, os⟩, ⟨denote treeTable cE, cE, ⟨0, 0, 0, 0⟩, B_⟩)
theorem Ppre : Lpre = Rpre := (by kernel_rfl)
noncomputable def T0 : Params → BT := fun P => (N (t0_0 P) (N (boot_o_1 P) (N (boot_o_3 P) (N (boot_o_7 P) E E) (N (t11_0 P) E E)) (N (boot_o_5 P) (N (boot_o_9 P) E E) (N (t13_0 P) E E))) (N (boot_o_2 P) (N (boot_o_4 P) (N (boot_o_8 P) E E) (N (o12_0 P) E E)) (N (boot_o_6 P) (N (boot_o_10 P) E E) (N (t14_0 P) E E))))
noncomputable def Lblock : World → OsState → Option (Flow × Shared × Code × Pos) := fun w os => segRun treeTable PySem.Challenge.pw_xm0288_01 w 11 ann_ 1 1 ⟨Ha w.params, Array.mk [], boot_drawn, 187, os⟩ (blockOf (behindTheImports PySem.Challenge.pw_xm0288_01) env_ cE ⟨0, 0, 0, 0⟩ B_)
noncomputable def Rblock : World → OsState → Option (Flow × Shared × Code × Pos) := fun w os => some (.next, (⟨T0 w.params, 15, {}, Array.mk [], boot_drawn, 187, os⟩ : SharedT).abs, cE, ⟨0, 0, 0, 0⟩)
theorem Pblock : Lblock = Rblock := (by kernel_rfl)
noncomputable def o2_0 : Params → Obj := fun P => ⟨.none, none, (.dict #[⟨PyData.keyHash P "type.__subclasses__.Exception.0", .str "type.__subclasses__.Exception.0" 251, (.int 38 0)⟩, ⟨PyData.keyHash P "type.__subclasses__.Exception.n", .str "type.__subclasses__.Exception.n" 252, (.int 1 0)⟩] 2), #[]⟩
noncomputable def en0 : Params → List DictEntry := fun P => [⟨PyData.keyHash P "OP_LDARG", .str "OP_LDARG" 207, (.int 65033 206)⟩, ⟨PyData.keyHash P "OP_LDARGA", .str "OP_LDARGA" 209, (.int 65034 208)⟩, ⟨PyData.keyHash P "OP_STARG", .str "OP_STARG" 211, (.int 65035 210)⟩, ⟨PyData.keyHash P "OP_LDLOC", .str "OP_LDLOC" 213, (.int 65036 212)⟩, ⟨PyData.keyHash P "OP_LDLOCA", .str "OP_LDLOCA" 215, (.int 65037 214)⟩, ⟨PyData.keyHash P "OP_STLOC", .str "OP_STLOC" 217, (.int 65038 216)⟩, ⟨PyData.keyHash P "OP_CONSTRAINED", .str "OP_CONSTRAINED" 219, (.int 65046 218)⟩, ⟨PyData.keyHash P "OP_READONLY", .str "OP_READONLY" 221, (.int 65054 220)⟩, ⟨PyData.keyHash P "RuneError", .str "RuneError" 254, (.ref 38)⟩]
noncomputable def o3_0 : Params → Obj := fun P => ⟨(.type "dict"), none, .dict (([⟨PyData.keyHash P "__name__", .str "__name__" 165, (.str "framerune.faults" 222)⟩, ⟨PyData.keyHash P "__doc__", .str "__doc__" 166, .none⟩, ⟨PyData.keyHash P "__package__", .str "__package__" 167, .none⟩, ⟨PyData.keyHash P "__loader__", .str "__loader__" 168, (.builtin "__main__.__loader__#opaque")⟩, ⟨PyData.keyHash P "__spec__", .str "__spec__" 169, .none⟩, ⟨PyData.keyHash P "__annotations__", .str "__annotations__" 170, (.ref 6)⟩, ⟨PyData.keyHash P "__builtins__", .str "__builtins__" 171, (.ref 4)⟩, ⟨PyData.keyHash P "__file__", .str "__file__" 173, (.str "/claim/cut.py" 172)⟩, ⟨PyData.keyHash P "__cached__", .str "__cached__" 174, .none⟩, ⟨PyData.keyHash P "_wall", .str "_wall" 193, (.ref 21)⟩, ⟨PyData.keyHash P "OP_LDC_I4", .str "OP_LDC_I4" 195, (.int 32 194)⟩, ⟨PyData.keyHash P "OP_BR", .str "OP_BR" 197, (.int 56 196)⟩, ⟨PyData.keyHash P "OP_SWITCH", .str "OP_SWITCH" 199, (.int 69 198)⟩, ⟨PyData.keyHash P "OP_CALLVIRT", .str "OP_CALLVIRT" 201, (.int 111 200)⟩, ⟨PyData.keyHash P "OP_LDELEMA", .str "OP_LDELEMA" 203, (.int 143 202)⟩, ⟨PyData.keyHash P "OP_LEAVE", .str "OP_LEAVE" 205, (.int 221 204)⟩] : List DictEntry) ++ en0 P ++ []).toArray 25, #[]⟩
noncomputable def o12_1 : Params → Obj := fun P => ⟨.none, none, (.fields #[.int 1 0, .int 0 0, .ref 20, .int 19 0, .int 0 0, .ref 27]), #[]⟩
noncomputable def o15_0 : Params → Obj := fun P => ⟨(.type "tuple"), none, (.seq #[] 0), #[]⟩
noncomputable def o16_0 : Params → Obj := fun P => ⟨.none, none, (.fields #[]), #[]⟩
noncomputable def o17_0 : Params → Obj := fun P => ⟨(.type "tuple"), none, (.seq #[.str "k" 190] 0), #[]⟩
noncomputable def o18_0 : Params → Obj := fun P => ⟨(.type "tuple"), none, (.seq #[] 0), #[]⟩
noncomputable def o19_0 : Params → Obj := fun P => ⟨.none, none, (.func { name := "_wall", qualname := "_wall", params := fnArgs (st 0), body := .stmts (fnBody (st 0)), scope := fnScope (st 0), globals := 0, closure := [], defaults := .none, kwdefaults := .none, doc := .none, pyModule := .none, annotations := none, code := .none, closureTuple := .none, builtins := 0 }), #[]⟩
noncomputable def o20_0 : Params → Obj := fun P => ⟨(.type "code"), none, (.fields #[.str "_wall" 187, .str "_wall" 188, .str "/claim/cut.py" 189, .int 1 0, .int 1 0, .int 0 0, .int 0 0, .int 3 0, .ref 15, .bool true, .int 181 0, .ref 16, .none, .ref 17, .ref 18, .ref 19, .int 191 0, .int 1 0, .str "/claim/cut.py" 192]), #[]⟩
noncomputable def o21_0 : Params → Obj := fun P => ⟨(.type "function"), none, (.func { name := "_wall", qualname := "_wall", params := fnArgs (st 0), body := .stmts (fnBody (st 0)), scope := fnScope (st 0), globals := 3, closure := [], defaults := .none, kwdefaults := .none, doc := .none, pyModule := (.str "__main__" 164), annotations := none, code := (.ref 20), closureTuple := .none, builtins := 0 }), #[]⟩
noncomputable def o22_0 : Params → Obj := fun P => ⟨(.type "tuple"), none, (.seq #[.type "Exception"] 0), #[]⟩
noncomputable def o23_0 : Params → Obj := fun P => ⟨(.type "builtin_function_or_method"), none, (.fields #[.builtin "type.__prepare__", .type "type"]), #[]⟩
noncomputable def o24_0 : Params → Obj := fun P => ⟨(.type "dict"), none, (.dict #[⟨PyData.keyHash P "__module__", .str "__module__" 231, (.str "framerune.faults" 222)⟩, ⟨PyData.keyHash P "__qualname__", .str "__qualname__" 233, (.str "RuneError" 232)⟩, ⟨PyData.keyHash P "__firstlineno__", .str "__firstlineno__" 235, (.int 19 234)⟩, ⟨PyData.keyHash P "__init__", .str "__init__" 244, (.ref 35)⟩, ⟨PyData.keyHash P "__static_attributes__", .str "__static_attributes__" 247, (.ref 36)⟩] 5), #[]⟩
noncomputable def o25_0 : Params → Obj := fun P => ⟨(.type "tuple"), none, (.seq #[] 0), #[]⟩
noncomputable def o26_0 : Params → Obj := fun P => ⟨.none, none, (.fields #[.int 21 0, .int 4 0, .ref 34]), #[]⟩
noncomputable def o27_0 : Params → Obj := fun P => ⟨(.type "code"), none, (.fields #[.str "RuneError" 226, .str "RuneError" 227, .str "/claim/cut.py" 228, .int 19 0, .int 0 0, .int 0 0, .int 0 0, .int 0 0, .ref 25, .bool false, .int 181 0, .ref 26, .none, .none, .none, .none, .int 229 0, .int 19 0, .str "/claim/cut.py" 230]), #[]⟩
noncomputable def o28_0 : Params → Obj := fun P => ⟨(.type "frame"), none, .plain, #[(some (.ref 27)), (some (.ref 3)), (some (.ref 24)), none, (some (.str "framerune.faults" 222)), none, (some (.ref 0))]⟩
noncomputable def o29_0 : Params → Obj := fun P => ⟨(.type "tuple"), none, (.seq #[] 0), #[]⟩
noncomputable def o30_0 : Params → Obj := fun P => ⟨.none, none, (.fields #[]), #[]⟩
noncomputable def o31_0 : Params → Obj := fun P => ⟨(.type "tuple"), none, (.seq #[.str "self" 239, .str "code" 240, .str "at" 241] 0), #[]⟩
noncomputable def o32_0 : Params → Obj := fun P => ⟨(.type "tuple"), none, (.seq #[] 0), #[]⟩
noncomputable def o33_0 : Params → Obj := fun P => ⟨.none, none, (.func { name := "__init__", qualname := "RuneError.__init__", params := fnArgs (nth (clsBody (st 16)) 0), body := .stmts (fnBody (nth (clsBody (st 16)) 0)), scope := fnScope (nth (clsBody (st 16)) 0), globals := 0, closure := [], defaults := .none, kwdefaults := .none, doc := .none, pyModule := .none, annotations := none, code := .none, closureTuple := .none, builtins := 0 }), #[]⟩
noncomputable def o34_0 : Params → Obj := fun P => ⟨(.type "code"), none, (.fields #[.str "__init__" 236, .str "RuneError.__init__" 237, .str "/claim/cut.py" 238, .int 21 0, .int 3 0, .int 0 0, .int 0 0, .int 3 0, .ref 29, .bool true, .int 181 0, .ref 30, .none, .ref 31, .ref 32, .ref 33, .int 242 0, .int 21 0, .str "/claim/cut.py" 243]), #[]⟩
noncomputable def o35_0 : Params → Obj := fun P => ⟨(.type "function"), none, (.func { name := "__init__", qualname := "RuneError.__init__", params := fnArgs (nth (clsBody (st 16)) 0), body := .stmts (fnBody (nth (clsBody (st 16)) 0)), scope := fnScope (nth (clsBody (st 16)) 0), globals := 3, closure := [], defaults := .none, kwdefaults := .none, doc := .none, pyModule := (.str "framerune.faults" 222), annotations := none, code := (.ref 34), closureTuple := .none, builtins := 0 }), #[]⟩
noncomputable def o36_0 : Params → Obj := fun P => ⟨(.type "tuple"), none, (.seq #[.str "at" 245, .str "code" 246] 0), #[]⟩
noncomputable def o37_0 : Params → Obj := fun P => ⟨(.type "dict"), none, (.dict #[⟨PyData.keyHash P "__module__", .str "__module__" 231, (.str "framerune.faults" 222)⟩, ⟨PyData.keyHash P "__firstlineno__", .str "__firstlineno__" 235, (.int 19 234)⟩, ⟨PyData.keyHash P "__init__", .str "__init__" 244, (.ref 35)⟩, ⟨PyData.keyHash P "__static_attributes__", .str "__static_attributes__" 247, (.ref 36)⟩, ⟨PyData.keyHash P "__weakref__", .str "__weakref__" 249, (.ref 39)⟩, ⟨PyData.keyHash P "__doc__", .str "__doc__" 250, .none⟩] 3), #[]⟩
noncomputable def o38_0 : Params → Obj := fun P => ⟨(.type "type"), none, (.cls { name := "RuneError", bases := [.type "Exception"], mro := [.ref 38, .type "Exception", .type "BaseException", .type "object"], ns := 37, qualname := "RuneError", hasDict := true, slotNames := [], subclasses := [], abstract := false, collection := none, hasDel := false }), #[(some (.ref 22)), none, (some (.str "RuneError" 224)), (some (.str "RuneError" 232)), (some (.builtin "Exception.__new__")), (some (.bool true))]⟩
noncomputable def o39_0 : Params → Obj := fun P => ⟨(.type "getset_descriptor"), none, (.fields #[.str "__weakref__" 248, .ref 38, .builtin "ExceptionGroup.__weakref__", .none]), #[]⟩
noncomputable def o40_0 : Params → Obj := fun P => ⟨(.type "super"), none, (.fields #[.ref 38, .ref 38, .ref 38]), #[]⟩
noncomputable def o41_0 : Params → Obj := fun P => ⟨(.type "builtin_function_or_method"), none, (.fields #[.builtin "object.__init_subclass__", .ref 38]), #[]⟩
noncomputable def t2_0 : Params → Obj := o2_0
noncomputable def t3_0 : Params → Obj := o3_0
noncomputable def t15_0 : Params → Obj := o15_0
noncomputable def t17_0 : Params → Obj := o17_0
noncomputable def t18_0 : Params → Obj := o18_0
noncomputable def t19_0 : Params → Obj := o19_0
noncomputable def t20_0 : Params → Obj := o20_0
noncomputable def t21_0 : Params → Obj := o21_0
noncomputable def t22_0 : Params → Obj := o22_0
noncomputable def t23_0 : Params → Obj := o23_0
noncomputable def t24_0 : Params → Obj := o24_0
noncomputable def t25_0 : Params → Obj := o25_0
noncomputable def t27_0 : Params → Obj := o27_0
noncomputable def t28_0 : Params → Obj := o28_0
noncomputable def t29_0 : Params → Obj := o29_0
noncomputable def t31_0 : Params → Obj := o31_0
noncomputable def t32_0 : Params → Obj := o32_0
noncomputable def t33_0 : Params → Obj := o33_0
noncomputable def t34_0 : Params → Obj := o34_0
noncomputable def t35_0 : Params → Obj := o35_0
noncomputable def t36_0 : Params → Obj := o36_0
noncomputable def t37_0 : Params → Obj := o37_0
noncomputable def t38_0 : Params → Obj := o38_0
noncomputable def t39_0 : Params → Obj := o39_0
noncomputable def t40_0 : Params → Obj := o40_0
noncomputable def t41_0 : Params → Obj := o41_0
noncomputable def T1 : Params → BT := fun P => (N (t0_0 P) (N (boot_o_1 P) (N (t3_0 P) (N (boot_o_7 P) (N (t15_0 P) (N (t31_0 P) E E) E) (N (t23_0 P) (N (t39_0 P) E E) E)) (N (t11_0 P) (N (t19_0 P) (N (t35_0 P) E E) E) (N (t27_0 P) E E))) (N (boot_o_5 P) (N (boot_o_9 P) (N (t17_0 P) (N (t33_0 P) E E) E) (N (t25_0 P) (N (t41_0 P) E E) E)) (N (t13_0 P) (N (t21_0 P) (N (t37_0 P) E E) E) (N (t29_0 P) E E)))) (N (t2_0 P) (N (boot_o_4 P) (N (boot_o_8 P) (N (o16_0 P) (N (t32_0 P) E E) E) (N (t24_0 P) (N (t40_0 P) E E) E)) (N (o12_1 P) (N (t20_0 P) (N (t36_0 P) E E) E) (N (t28_0 P) E E))) (N (boot_o_6 P) (N (boot_o_10 P) (N (t18_0 P) (N (t34_0 P) E E) E) (N (o26_0 P) E E)) (N (t14_0 P) (N (t22_0 P) (N (t38_0 P) E E) E) (N (o30_0 P) E E)))))
noncomputable def sts0 : List Stmt := [st 0, st 1, st 2, st 3, st 4, st 5, st 6, st 7, st 8, st 9, st 10, st 11, st 12, st 13, st 14, st 15, st 16]
noncomputable def Lg0 : World → OsState → Option (Flow × SharedT × Code × Pos) := fun w os => segRunT treeTable PySem.Challenge.pw_xm0288_01 w 11 ann_ 1 395 (⟨T0 w.params, 15, {}, Array.mk [], boot_drawn, 187, os⟩ : SharedT) (piecesOf sts0 env_ cE ⟨0, 0, 0, 0⟩ B_)
noncomputable def Rg0 : World → OsState → Option (Flow × SharedT × Code × Pos) := fun w os => some (.next, (⟨T1 w.params, 42, {}, Array.mk [], boot_drawn, 255, os⟩ : SharedT), cE, ⟨19, 0, 23, 20⟩)
theorem Pg0 : Lg0 = Rg0 := (by kernel_rfl)
noncomputable def en1 : Params → List DictEntry := fun P => [⟨PyData.keyHash P "BadCode", .str "BadCode" 270, (.ref 51)⟩, ⟨PyData.keyHash P "SO_NONE", .str "SO_NONE" 274, (.int 0 273)⟩, ⟨PyData.keyHash P "SO_I4", .str "SO_I4" 276, (.int 1 275)⟩, ⟨PyData.keyHash P "SO_I8", .str "SO_I8" 278, (.int 2 277)⟩, ⟨PyData.keyHash P "SO_ARG", .str "SO_ARG" 280, (.int 3 279)⟩, ⟨PyData.keyHash P "SO_LOCAL", .str "SO_LOCAL" 282, (.int 4 281)⟩, ⟨PyData.keyHash P "SO_BRANCH", .str "SO_BRANCH" 284, (.int 5 283)⟩, ⟨PyData.keyHash P "SO_SWITCH", .str "SO_SWITCH" 286, (.int 6 285)⟩, ⟨PyData.keyHash P "SO_KIND", .str "SO_KIND" 288, (.int 7 287)⟩, ⟨PyData.keyHash P "SO_FIELD", .str "SO_FIELD" 290, (.int 8 289)⟩, ⟨PyData.keyHash P "SO_METHOD", .str "SO_METHOD" 292, (.int 9 291)⟩, ⟨PyData.keyHash P "SO_TEXT", .str "SO_TEXT" 294, (.int 10 293)⟩, ⟨PyData.keyHash P "SO_TOKEN", .str "SO_TOKEN" 296, (.int 11 295)⟩, ⟨PyData.keyHash P "SF_FIXED", .str "SF_FIXED" 298, (.int 0 297)⟩, ⟨PyData.keyHash P "SF_U8", .str "SF_U8" 300, (.int 1 299)⟩, ⟨PyData.keyHash P "SF_I8", .str "SF_I8" 302, (.int 2 301)⟩, ⟨PyData.keyHash P "SF_JUMP", .str "SF_JUMP" 304, (.int 3 303)⟩]
noncomputable def o3_1 : Params → Obj := fun P => ⟨(.type "dict"), none, .dict (([⟨PyData.keyHash P "__name__", .str "__name__" 165, (.str "framerune.ops" 271)⟩, ⟨PyData.keyHash P "__doc__", .str "__doc__" 166, .none⟩, ⟨PyData.keyHash P "__package__", .str "__package__" 167, .none⟩, ⟨PyData.keyHash P "__loader__", .str "__loader__" 168, (.builtin "__main__.__loader__#opaque")⟩, ⟨PyData.keyHash P "__spec__", .str "__spec__" 169, .none⟩, ⟨PyData.keyHash P "__annotations__", .str "__annotations__" 170, (.ref 6)⟩, ⟨PyData.keyHash P "__builtins__", .str "__builtins__" 171, (.ref 4)⟩, ⟨PyData.keyHash P "__file__", .str "__file__" 173, (.str "/claim/cut.py" 172)⟩, ⟨PyData.keyHash P "__cached__", .str "__cached__" 174, .none⟩, ⟨PyData.keyHash P "_wall", .str "_wall" 193, (.ref 21)⟩, ⟨PyData.keyHash P "OP_LDC_I4", .str "OP_LDC_I4" 195, (.int 32 194)⟩, ⟨PyData.keyHash P "OP_BR", .str "OP_BR" 197, (.int 56 196)⟩, ⟨PyData.keyHash P "OP_SWITCH", .str "OP_SWITCH" 199, (.int 69 198)⟩, ⟨PyData.keyHash P "OP_CALLVIRT", .str "OP_CALLVIRT" 201, (.int 111 200)⟩, ⟨PyData.keyHash P "OP_LDELEMA", .str "OP_LDELEMA" 203, (.int 143 202)⟩, ⟨PyData.keyHash P "OP_LEAVE", .str "OP_LEAVE" 205, (.int 221 204)⟩] : List DictEntry) ++ en0 P ++ en1 P ++ []).toArray 42, #[]⟩
noncomputable def o12_2 : Params → Obj := fun P => ⟨.none, none, (.fields #[.int 1 0, .int 0 0, .ref 20, .int 19 0, .int 0 0, .ref 27, .int 24 0, .int 0 0, .ref 47]), #[]⟩
noncomputable def o38_1 : Params → Obj := fun P => ⟨(.type "type"), none, (.cls { name := "RuneError", bases := [.type "Exception"], mro := [.ref 38, .type "Exception", .type "BaseException", .type "object"], ns := 37, qualname := "RuneError", hasDict := true, slotNames := [], subclasses := [.ref 51], abstract := false, collection := none, hasDel := false }), #[(some (.ref 22)), none, (some (.str "RuneError" 224)), (some (.str "RuneError" 232)), (some (.builtin "Exception.__new__")), (some (.bool true))]⟩
noncomputable def o42_0 : Params → Obj := fun P => ⟨(.type "tuple"), none, (.seq #[.ref 38] 0), #[]⟩
noncomputable def o43_0 : Params → Obj := fun P => ⟨(.type "builtin_function_or_method"), none, (.fields #[.builtin "type.__prepare__", .type "type"]), #[]⟩
noncomputable def o44_0 : Params → Obj := fun P => ⟨(.type "dict"), none, (.dict #[⟨PyData.keyHash P "__module__", .str "__module__" 262, (.str "framerune.faults" 222)⟩, ⟨PyData.keyHash P "__qualname__", .str "__qualname__" 264, (.str "BadCode" 263)⟩, ⟨PyData.keyHash P "__firstlineno__", .str "__firstlineno__" 266, (.int 24 265)⟩, ⟨PyData.keyHash P "__static_attributes__", .str "__static_attributes__" 267, (.ref 49)⟩] 4), #[]⟩
noncomputable def o45_0 : Params → Obj := fun P => ⟨(.type "tuple"), none, (.seq #[] 0), #[]⟩
noncomputable def o46_0 : Params → Obj := fun P => ⟨.none, none, (.fields #[]), #[]⟩
noncomputable def o47_0 : Params → Obj := fun P => ⟨(.type "code"), none, (.fields #[.str "BadCode" 257, .str "BadCode" 258, .str "/claim/cut.py" 259, .int 24 0, .int 0 0, .int 0 0, .int 0 0, .int 0 0, .ref 45, .bool false, .int 181 0, .ref 46, .none, .none, .none, .none, .int 260 0, .int 24 0, .str "/claim/cut.py" 261]), #[]⟩
noncomputable def o48_0 : Params → Obj := fun P => ⟨(.type "frame"), none, .plain, #[(some (.ref 47)), (some (.ref 3)), (some (.ref 44)), none, (some (.str "framerune.faults" 222)), none, (some (.ref 0))]⟩
noncomputable def o49_0 : Params → Obj := fun P => ⟨(.type "tuple"), none, (.seq #[] 0), #[]⟩
noncomputable def o50_0 : Params → Obj := fun P => ⟨(.type "dict"), none, (.dict #[⟨PyData.keyHash P "__module__", .str "__module__" 262, (.str "framerune.faults" 222)⟩, ⟨PyData.keyHash P "__firstlineno__", .str "__firstlineno__" 266, (.int 24 265)⟩, ⟨PyData.keyHash P "__static_attributes__", .str "__static_attributes__" 267, (.ref 49)⟩, ⟨PyData.keyHash P "__doc__", .str "__doc__" 268, .none⟩] 2), #[]⟩
noncomputable def o51_0 : Params → Obj := fun P => ⟨(.type "type"), none, (.cls { name := "BadCode", bases := [.ref 38], mro := [.ref 51, .ref 38, .type "Exception", .type "BaseException", .type "object"], ns := 50, qualname := "BadCode", hasDict := true, slotNames := [], subclasses := [], abstract := false, collection := none, hasDel := false }), #[(some (.ref 42)), none, (some (.str "BadCode" 255)), (some (.str "BadCode" 263)), (some (.builtin "Exception.__new__")), (some (.bool true))]⟩
noncomputable def o52_0 : Params → Obj := fun P => ⟨(.type "super"), none, (.fields #[.ref 51, .ref 51, .ref 51]), #[]⟩
noncomputable def o53_0 : Params → Obj := fun P => ⟨(.type "builtin_function_or_method"), none, (.fields #[.builtin "object.__init_subclass__", .ref 51]), #[]⟩
noncomputable def t3_1 : Params → Obj := o3_1
noncomputable def t38_1 : Params → Obj := o38_1
noncomputable def t42_0 : Params → Obj := o42_0
noncomputable def t43_0 : Params → Obj := o43_0
noncomputable def t44_0 : Params → Obj := o44_0
noncomputable def t45_0 : Params → Obj := o45_0
noncomputable def t47_0 : Params → Obj := o47_0
noncomputable def t48_0 : Params → Obj := o48_0
noncomputable def t49_0 : Params → Obj := o49_0
noncomputable def t50_0 : Params → Obj := o50_0
noncomputable def t51_0 : Params → Obj := o51_0
noncomputable def t52_0 : Params → Obj := o52_0
noncomputable def t53_0 : Params → Obj := o53_0
noncomputable def T2 : Params → BT := fun P => (N (t0_0 P) (N (boot_o_1 P) (N (t3_1 P) (N (boot_o_7 P) (N (t15_0 P) (N (t31_0 P) E E) (N (t47_0 P) E E)) (N (t23_0 P) (N (t39_0 P) E E) E)) (N (t11_0 P) (N (t19_0 P) (N (t35_0 P) E E) (N (t51_0 P) E E)) (N (t27_0 P) (N (t43_0 P) E E) E))) (N (boot_o_5 P) (N (boot_o_9 P) (N (t17_0 P) (N (t33_0 P) E E) (N (t49_0 P) E E)) (N (t25_0 P) (N (t41_0 P) E E) E)) (N (t13_0 P) (N (t21_0 P) (N (t37_0 P) E E) (N (t53_0 P) E E)) (N (t29_0 P) (N (t45_0 P) E E) E)))) (N (t2_0 P) (N (boot_o_4 P) (N (boot_o_8 P) (N (o16_0 P) (N (t32_0 P) E E) (N (t48_0 P) E E)) (N (t24_0 P) (N (t40_0 P) E E) E)) (N (o12_2 P) (N (t20_0 P) (N (t36_0 P) E E) (N (t52_0 P) E E)) (N (t28_0 P) (N (t44_0 P) E E) E))) (N (boot_o_6 P) (N (boot_o_10 P) (N (t18_0 P) (N (t34_0 P) E E) (N (t50_0 P) E E)) (N (o26_0 P) (N (t42_0 P) E E) E)) (N (t14_0 P) (N (t22_0 P) (N (t38_1 P) E E) E) (N (o30_0 P) (N (o46_0 P) E E) E)))))
noncomputable def sts1 : List Stmt := [st 17, st 18, st 19, st 20, st 21, st 22, st 23, st 24, st 25, st 26, st 27, st 28, st 29, st 30, st 31, st 32, st 33, st 34]
noncomputable def Lg1 : World → OsState → Option (Flow × SharedT × Code × Pos) := fun w os => segRunT treeTable PySem.Challenge.pw_xm0288_01 w 11 ann_ 1 367 (⟨T1 w.params, 42, {}, Array.mk [], boot_drawn, 255, os⟩ : SharedT) (piecesOf sts1 env_ cE ⟨19, 0, 23, 20⟩ B_)
noncomputable def Rg1 : World → OsState → Option (Flow × SharedT × Code × Pos) := fun w os => some (.next, (⟨T2 w.params, 54, {}, Array.mk [], boot_drawn, 305, os⟩ : SharedT), cE, ⟨42, 0, 42, 7⟩)
theorem Pg1 : Lg1 = Rg1 := (by kernel_rfl)
noncomputable def en2 : Params → List DictEntry := fun P => [⟨PyData.keyHash P "OP_SORT", .str "OP_SORT" 557, (.ref 54)⟩]
noncomputable def o3_2 : Params → Obj := fun P => ⟨(.type "dict"), none, .dict (([⟨PyData.keyHash P "__name__", .str "__name__" 165, (.str "framerune.ops" 271)⟩, ⟨PyData.keyHash P "__doc__", .str "__doc__" 166, .none⟩, ⟨PyData.keyHash P "__package__", .str "__package__" 167, .none⟩, ⟨PyData.keyHash P "__loader__", .str "__loader__" 168, (.builtin "__main__.__loader__#opaque")⟩, ⟨PyData.keyHash P "__spec__", .str "__spec__" 169, .none⟩, ⟨PyData.keyHash P "__annotations__", .str "__annotations__" 170, (.ref 6)⟩, ⟨PyData.keyHash P "__builtins__", .str "__builtins__" 171, (.ref 4)⟩, ⟨PyData.keyHash P "__file__", .str "__file__" 173, (.str "/claim/cut.py" 172)⟩, ⟨PyData.keyHash P "__cached__", .str "__cached__" 174, .none⟩, ⟨PyData.keyHash P "_wall", .str "_wall" 193, (.ref 21)⟩, ⟨PyData.keyHash P "OP_LDC_I4", .str "OP_LDC_I4" 195, (.int 32 194)⟩, ⟨PyData.keyHash P "OP_BR", .str "OP_BR" 197, (.int 56 196)⟩, ⟨PyData.keyHash P "OP_SWITCH", .str "OP_SWITCH" 199, (.int 69 198)⟩, ⟨PyData.keyHash P "OP_CALLVIRT", .str "OP_CALLVIRT" 201, (.int 111 200)⟩, ⟨PyData.keyHash P "OP_LDELEMA", .str "OP_LDELEMA" 203, (.int 143 202)⟩, ⟨PyData.keyHash P "OP_LEAVE", .str "OP_LEAVE" 205, (.int 221 204)⟩] : List DictEntry) ++ en0 P ++ en1 P ++ en2 P ++ []).toArray 43, #[]⟩
noncomputable def o54_0 : Params → Obj := fun P => ⟨(.type "dict"), none, (.dict #[⟨0, .int 0 305, (.int 0 273)⟩, ⟨20, .int 20 307, (.int 0 273)⟩, ⟨32, .int 32 309, (.int 1 275)⟩, ⟨33, .int 33 311, (.int 2 277)⟩, ⟨37, .int 37 313, (.int 0 273)⟩, ⟨38, .int 38 315, (.int 0 273)⟩, ⟨40, .int 40 317, (.int 9 291)⟩, ⟨42, .int 42 319, (.int 0 273)⟩, ⟨56, .int 56 321, (.int 5 283)⟩, ⟨57, .int 57 323, (.int 5 283)⟩, ⟨58, .int 58 325, (.int 5 283)⟩, ⟨59, .int 59 327, (.int 5 283)⟩, ⟨60, .int 60 329, (.int 5 283)⟩, ⟨61, .int 61 331, (.int 5 283)⟩, ⟨62, .int 62 333, (.int 5 283)⟩, ⟨63, .int 63 335, (.int 5 283)⟩, ⟨64, .int 64 337, (.int 5 283)⟩, ⟨65, .int 65 339, (.int 5 283)⟩, ⟨66, .int 66 341, (.int 5 283)⟩, ⟨67, .int 67 343, (.int 5 283)⟩, ⟨68, .int 68 345, (.int 5 283)⟩, ⟨69, .int 69 347, (.int 6 285)⟩, ⟨70, .int 70 349, (.int 0 273)⟩, ⟨71, .int 71 351, (.int 0 273)⟩, ⟨72, .int 72 353, (.int 0 273)⟩, ⟨73, .int 73 355, (.int 0 273)⟩, ⟨74, .int 74 357, (.int 0 273)⟩, ⟨75, .int 75 359, (.int 0 273)⟩, ⟨76, .int 76 361, (.int 0 273)⟩, ⟨77, .int 77 363, (.int 0 273)⟩, ⟨80, .int 80 365, (.int 0 273)⟩, ⟨81, .int 81 367, (.int 0 273)⟩, ⟨82, .int 82 369, (.int 0 273)⟩, ⟨83, .int 83 371, (.int 0 273)⟩, ⟨84, .int 84 373, (.int 0 273)⟩, ⟨85, .int 85 375, (.int 0 273)⟩, ⟨88, .int 88 377, (.int 0 273)⟩, ⟨89, .int 89 379, (.int 0 273)⟩, ⟨90, .int 90 381, (.int 0 273)⟩, ⟨91, .int 91 383, (.int 0 273)⟩, ⟨92, .int 92 385, (.int 0 273)⟩, ⟨93, .int 93 387, (.int 0 273)⟩, ⟨94, .int 94 389, (.int 0 273)⟩, ⟨95, .int 95 391, (.int 0 273)⟩, ⟨96, .int 96 393, (.int 0 273)⟩, ⟨97, .int 97 395, (.int 0 273)⟩, ⟨98, .int 98 397, (.int 0 273)⟩, ⟨99, .int 99 399, (.int 0 273)⟩, ⟨100, .int 100 401, (.int 0 273)⟩, ⟨101, .int 101 403, (.int 0 273)⟩, ⟨102, .int 102 405, (.int 0 273)⟩, ⟨103, .int 103 407, (.int 0 273)⟩, ⟨104, .int 104 409, (.int 0 273)⟩, ⟨105, .int 105 411, (.int 0 273)⟩, ⟨106, .int 106 413, (.int 0 273)⟩, ⟨109, .int 109 415, (.int 0 273)⟩, ⟨110, .int 110 417, (.int 0 273)⟩, ⟨111, .int 111 419, (.int 9 291)⟩, ⟨113, .int 113 421, (.int 7 287)⟩, ⟨114, .int 114 423, (.int 10 293)⟩, ⟨115, .int 115 425, (.int 9 291)⟩, ⟨116, .int 116 427, (.int 7 287)⟩, ⟨117, .int 117 429, (.int 7 287)⟩, ⟨121, .int 121 431, (.int 7 287)⟩, ⟨122, .int 122 433, (.int 0 273)⟩, ⟨123, .int 123 435, (.int 8 289)⟩, ⟨124, .int 124 437, (.int 8 289)⟩, ⟨125, .int 125 439, (.int 8 289)⟩, ⟨126, .int 126 441, (.int 8 289)⟩, ⟨127, .int 127 443, (.int 8 289)⟩, ⟨128, .int 128 445, (.int 8 289)⟩, ⟨129, .int 129 447, (.int 7 287)⟩, ⟨130, .int 130 449, (.int 0 273)⟩, ⟨131, .int 131 451, (.int 0 273)⟩, ⟨132, .int 132 453, (.int 0 273)⟩, ⟨133, .int 133 455, (.int 0 273)⟩, ⟨134, .int 134 457, (.int 0 273)⟩, ⟨135, .int 135 459, (.int 0 273)⟩, ⟨136, .int 136 461, (.int 0 273)⟩, ⟨137, .int 137 463, (.int 0 273)⟩, ⟨140, .int 140 465, (.int 7 287)⟩, ⟨141, .int 141 467, (.int 7 287)⟩, ⟨142, .int 142 469, (.int 0 273)⟩, ⟨143, .int 143 471, (.int 7 287)⟩, ⟨163, .int 163 473, (.int 7 287)⟩, ⟨164, .int 164 475, (.int 7 287)⟩, ⟨165, .int 165 477, (.int 7 287)⟩, ⟨179, .int 179 479, (.int 0 273)⟩, ⟨180, .int 180 481, (.int 0 273)⟩, ⟨181, .int 181 483, (.int 0 273)⟩, ⟨182, .int 182 485, (.int 0 273)⟩, ⟨183, .int 183 487, (.int 0 273)⟩, ⟨184, .int 184 489, (.int 0 273)⟩, ⟨185, .int 185 491, (.int 0 273)⟩, ⟨186, .int 186 493, (.int 0 273)⟩, ⟨208, .int 208 495, (.int 11 295)⟩, ⟨209, .int 209 497, (.int 0 273)⟩, ⟨210, .int 210 499, (.int 0 273)⟩, ⟨211, .int 211 501, (.int 0 273)⟩, ⟨214, .int 214 503, (.int 0 273)⟩, ⟨215, .int 215 505, (.int 0 273)⟩, ⟨216, .int 216 507, (.int 0 273)⟩, ⟨217, .int 217 509, (.int 0 273)⟩, ⟨218, .int 218 511, (.int 0 273)⟩, ⟨219, .int 219 513, (.int 0 273)⟩, ⟨220, .int 220 515, (.int 0 273)⟩, ⟨221, .int 221 517, (.int 5 283)⟩, ⟨223, .int 223 519, (.int 0 273)⟩, ⟨65025, .int 65025 521, (.int 0 273)⟩, ⟨65026, .int 65026 523, (.int 0 273)⟩, ⟨65027, .int 65027 525, (.int 0 273)⟩, ⟨65028, .int 65028 527, (.int 0 273)⟩, ⟨65029, .int 65029 529, (.int 0 273)⟩, ⟨65030, .int 65030 531, (.int 9 291)⟩, ⟨65031, .int 65031 533, (.int 9 291)⟩, ⟨65033, .int 65033 535, (.int 3 279)⟩, ⟨65034, .int 65034 537, (.int 3 279)⟩, ⟨65035, .int 65035 539, (.int 3 279)⟩, ⟨65036, .int 65036 541, (.int 4 281)⟩, ⟨65037, .int 65037 543, (.int 4 281)⟩, ⟨65038, .int 65038 544, (.int 4 281)⟩, ⟨65041, .int 65041 545, (.int 0 273)⟩, ⟨65045, .int 65045 546, (.int 7 287)⟩, ⟨65046, .int 65046 547, (.int 7 287)⟩, ⟨65050, .int 65050 548, (.int 0 273)⟩, ⟨65054, .int 65054 549, (.int 0 273)⟩] 126), #[]⟩
noncomputable def o55_0 : Params → Obj := fun P => ⟨(.type "dict"), none, (.dict #[⟨65, .int 65 339, (.int 5 283)⟩, ⟨66, .int 66 341, (.int 5 283)⟩, ⟨67, .int 67 343, (.int 5 283)⟩, ⟨68, .int 68 345, (.int 5 283)⟩, ⟨69, .int 69 347, (.int 6 285)⟩, ⟨70, .int 70 349, (.int 0 273)⟩, ⟨71, .int 71 351, (.int 0 273)⟩, ⟨72, .int 72 353, (.int 0 273)⟩, ⟨73, .int 73 355, (.int 0 273)⟩, ⟨74, .int 74 357, (.int 0 273)⟩, ⟨75, .int 75 359, (.int 0 273)⟩, ⟨76, .int 76 361, (.int 0 273)⟩, ⟨77, .int 77 363, (.int 0 273)⟩, ⟨80, .int 80 365, (.int 0 273)⟩, ⟨81, .int 81 367, (.int 0 273)⟩, ⟨82, .int 82 369, (.int 0 273)⟩, ⟨83, .int 83 371, (.int 0 273)⟩] 17), #[]⟩
noncomputable def o56_0 : Params → Obj := fun P => ⟨(.type "dict"), none, (.dict #[⟨84, .int 84 373, (.int 0 273)⟩, ⟨85, .int 85 375, (.int 0 273)⟩, ⟨88, .int 88 377, (.int 0 273)⟩, ⟨89, .int 89 379, (.int 0 273)⟩, ⟨90, .int 90 381, (.int 0 273)⟩, ⟨91, .int 91 383, (.int 0 273)⟩, ⟨92, .int 92 385, (.int 0 273)⟩, ⟨93, .int 93 387, (.int 0 273)⟩, ⟨94, .int 94 389, (.int 0 273)⟩, ⟨95, .int 95 391, (.int 0 273)⟩, ⟨96, .int 96 393, (.int 0 273)⟩, ⟨97, .int 97 395, (.int 0 273)⟩, ⟨98, .int 98 397, (.int 0 273)⟩, ⟨99, .int 99 399, (.int 0 273)⟩, ⟨100, .int 100 401, (.int 0 273)⟩, ⟨101, .int 101 403, (.int 0 273)⟩, ⟨102, .int 102 405, (.int 0 273)⟩] 17), #[]⟩
noncomputable def o57_0 : Params → Obj := fun P => ⟨(.type "dict"), none, (.dict #[⟨103, .int 103 407, (.int 0 273)⟩, ⟨104, .int 104 409, (.int 0 273)⟩, ⟨105, .int 105 411, (.int 0 273)⟩, ⟨106, .int 106 413, (.int 0 273)⟩, ⟨109, .int 109 415, (.int 0 273)⟩, ⟨110, .int 110 417, (.int 0 273)⟩, ⟨111, .int 111 419, (.int 9 291)⟩, ⟨113, .int 113 421, (.int 7 287)⟩, ⟨114, .int 114 423, (.int 10 293)⟩, ⟨115, .int 115 425, (.int 9 291)⟩, ⟨116, .int 116 427, (.int 7 287)⟩, ⟨117, .int 117 429, (.int 7 287)⟩, ⟨121, .int 121 431, (.int 7 287)⟩, ⟨122, .int 122 433, (.int 0 273)⟩, ⟨123, .int 123 435, (.int 8 289)⟩, ⟨124, .int 124 437, (.int 8 289)⟩, ⟨125, .int 125 439, (.int 8 289)⟩] 17), #[]⟩
noncomputable def o58_0 : Params → Obj := fun P => ⟨(.type "dict"), none, (.dict #[⟨126, .int 126 441, (.int 8 289)⟩, ⟨127, .int 127 443, (.int 8 289)⟩, ⟨128, .int 128 445, (.int 8 289)⟩, ⟨129, .int 129 447, (.int 7 287)⟩, ⟨130, .int 130 449, (.int 0 273)⟩, ⟨131, .int 131 451, (.int 0 273)⟩, ⟨132, .int 132 453, (.int 0 273)⟩, ⟨133, .int 133 455, (.int 0 273)⟩, ⟨134, .int 134 457, (.int 0 273)⟩, ⟨135, .int 135 459, (.int 0 273)⟩, ⟨136, .int 136 461, (.int 0 273)⟩, ⟨137, .int 137 463, (.int 0 273)⟩, ⟨140, .int 140 465, (.int 7 287)⟩, ⟨141, .int 141 467, (.int 7 287)⟩, ⟨142, .int 142 469, (.int 0 273)⟩, ⟨143, .int 143 471, (.int 7 287)⟩, ⟨163, .int 163 473, (.int 7 287)⟩] 17), #[]⟩
noncomputable def o59_0 : Params → Obj := fun P => ⟨(.type "dict"), none, (.dict #[⟨164, .int 164 475, (.int 7 287)⟩, ⟨165, .int 165 477, (.int 7 287)⟩, ⟨179, .int 179 479, (.int 0 273)⟩, ⟨180, .int 180 481, (.int 0 273)⟩, ⟨181, .int 181 483, (.int 0 273)⟩, ⟨182, .int 182 485, (.int 0 273)⟩, ⟨183, .int 183 487, (.int 0 273)⟩, ⟨184, .int 184 489, (.int 0 273)⟩, ⟨185, .int 185 491, (.int 0 273)⟩, ⟨186, .int 186 493, (.int 0 273)⟩, ⟨208, .int 208 495, (.int 11 295)⟩, ⟨209, .int 209 497, (.int 0 273)⟩, ⟨210, .int 210 499, (.int 0 273)⟩, ⟨211, .int 211 501, (.int 0 273)⟩, ⟨214, .int 214 503, (.int 0 273)⟩, ⟨215, .int 215 505, (.int 0 273)⟩, ⟨216, .int 216 507, (.int 0 273)⟩] 17), #[]⟩
noncomputable def o60_0 : Params → Obj := fun P => ⟨(.type "dict"), none, (.dict #[⟨217, .int 217 509, (.int 0 273)⟩, ⟨218, .int 218 511, (.int 0 273)⟩, ⟨219, .int 219 513, (.int 0 273)⟩, ⟨220, .int 220 515, (.int 0 273)⟩, ⟨221, .int 221 517, (.int 5 283)⟩, ⟨223, .int 223 519, (.int 0 273)⟩, ⟨65025, .int 65025 521, (.int 0 273)⟩, ⟨65026, .int 65026 523, (.int 0 273)⟩, ⟨65027, .int 65027 525, (.int 0 273)⟩, ⟨65028, .int 65028 527, (.int 0 273)⟩, ⟨65029, .int 65029 529, (.int 0 273)⟩, ⟨65030, .int 65030 531, (.int 9 291)⟩, ⟨65031, .int 65031 533, (.int 9 291)⟩, ⟨65033, .int 65033 535, (.int 3 279)⟩, ⟨65034, .int 65034 537, (.int 3 279)⟩, ⟨65035, .int 65035 539, (.int 3 279)⟩, ⟨65036, .int 65036 541, (.int 4 281)⟩] 17), #[]⟩
noncomputable def o61_0 : Params → Obj := fun P => ⟨(.type "dict"), none, (.dict #[⟨65037, .int 65037 543, (.int 4 281)⟩, ⟨65038, .int 65038 544, (.int 4 281)⟩, ⟨65041, .int 65041 545, (.int 0 273)⟩, ⟨65045, .int 65045 546, (.int 7 287)⟩, ⟨65046, .int 65046 547, (.int 7 287)⟩, ⟨65050, .int 65050 548, (.int 0 273)⟩, ⟨65054, .int 65054 549, (.int 0 273)⟩] 7), #[]⟩
noncomputable def t3_2 : Params → Obj := o3_2
noncomputable def t54_0 : Params → Obj := o54_0
noncomputable def t55_0 : Params → Obj := o55_0
noncomputable def t56_0 : Params → Obj := o56_0
noncomputable def t57_0 : Params → Obj := o57_0
noncomputable def t58_0 : Params → Obj := o58_0
noncomputable def t59_0 : Params → Obj := o59_0
noncomputable def t60_0 : Params → Obj := o60_0
noncomputable def t61_0 : Params → Obj := o61_0
noncomputable def T3 : Params → BT := fun P => (N (t0_0 P) (N (boot_o_1 P) (N (t3_2 P) (N (boot_o_7 P) (N (t15_0 P) (N (t31_0 P) E E) (N (t47_0 P) E E)) (N (t23_0 P) (N (t39_0 P) E E) (N (t55_0 P) E E))) (N (t11_0 P) (N (t19_0 P) (N (t35_0 P) E E) (N (t51_0 P) E E)) (N (t27_0 P) (N (t43_0 P) E E) (N (t59_0 P) E E)))) (N (boot_o_5 P) (N (boot_o_9 P) (N (t17_0 P) (N (t33_0 P) E E) (N (t49_0 P) E E)) (N (t25_0 P) (N (t41_0 P) E E) (N (t57_0 P) E E))) (N (t13_0 P) (N (t21_0 P) (N (t37_0 P) E E) (N (t53_0 P) E E)) (N (t29_0 P) (N (t45_0 P) E E) (N (t61_0 P) E E))))) (N (t2_0 P) (N (boot_o_4 P) (N (boot_o_8 P) (N (o16_0 P) (N (t32_0 P) E E) (N (t48_0 P) E E)) (N (t24_0 P) (N (t40_0 P) E E) (N (t56_0 P) E E))) (N (o12_2 P) (N (t20_0 P) (N (t36_0 P) E E) (N (t52_0 P) E E)) (N (t28_0 P) (N (t44_0 P) E E) (N (t60_0 P) E E)))) (N (boot_o_6 P) (N (boot_o_10 P) (N (t18_0 P) (N (t34_0 P) E E) (N (t50_0 P) E E)) (N (o26_0 P) (N (t42_0 P) E E) (N (t58_0 P) E E))) (N (t14_0 P) (N (t22_0 P) (N (t38_1 P) E E) (N (t54_0 P) E E)) (N (o30_0 P) (N (o46_0 P) E E) E)))))
noncomputable def sts2 : List Stmt := [st 35]
noncomputable def Lg2f : World → OsState → Option (Flow × SharedT × Code × Pos) := fun w os => segRunT treeTable PySem.Challenge.pw_xm0288_01 (w.withFollow "special-get-raises" false) 11 ann_ 1 2478 (⟨T2 (w.withFollow "special-get-raises" false).params, 54, {}, Array.mk [], boot_drawn, 305, os⟩ : SharedT) (piecesOf sts2 env_ cE ⟨42, 0, 42, 7⟩ B_)
noncomputable def Rg2f : World → OsState → Option (Flow × SharedT × Code × Pos) := fun w os => some (.next, (⟨T3 (w.withFollow "special-get-raises" false).params, 62, {}, Array.mk [], boot_drawn, 558, os⟩ : SharedT), cE, ⟨43, 0, 43, 7⟩)
theorem Pg2f : Lg2f = Rg2f := (by kernel_rfl)
noncomputable def Lg2t : World → OsState → Option (Flow × SharedT × Code × Pos) := fun w os => segRunT treeTable PySem.Challenge.pw_xm0288_01 (w.withFollow "special-get-raises" true) 11 ann_ 1 2478 (⟨T2 (w.withFollow "special-get-raises" true).params, 54, {}, Array.mk [], boot_drawn, 305, os⟩ : SharedT) (piecesOf sts2 env_ cE ⟨42, 0, 42, 7⟩ B_)
noncomputable def Rg2t : World → OsState → Option (Flow × SharedT × Code × Pos) := fun w os => some (.next, (⟨T3 (w.withFollow "special-get-raises" true).params, 62, {}, Array.mk [], boot_drawn, 558, os⟩ : SharedT), cE, ⟨43, 0, 43, 7⟩)
theorem Pg2t : Lg2t = Rg2t := (by kernel_rfl)
noncomputable def Lg2 : World → OsState → Option (Flow × SharedT × Code × Pos) := fun w os => segRunT treeTable PySem.Challenge.pw_xm0288_01 w 11 ann_ 1 2478 (⟨T2 w.params, 54, {}, Array.mk [], boot_drawn, 305, os⟩ : SharedT) (piecesOf sts2 env_ cE ⟨42, 0, 42, 7⟩ B_)
noncomputable def Rg2 : World → OsState → Option (Flow × SharedT × Code × Pos) := fun w os => some (.next, (⟨T3 w.params, 62, {}, Array.mk [], boot_drawn, 558, os⟩ : SharedT), cE, ⟨43, 0, 43, 7⟩)
theorem Pg2 : Lg2 = Rg2 := funext fun w => byRow2 "special-get-raises" (P := fun w => Lg2 w = Rg2 w) (fun w => congrFun Pg2f w) (fun w => congrFun Pg2t w) w
noncomputable def en3 : Params → List DictEntry := fun P => [⟨PyData.keyHash P "SHORT", .str "SHORT" 783, (.ref 62)⟩]
noncomputable def o3_3 : Params → Obj := fun P => ⟨(.type "dict"), none, .dict (([⟨PyData.keyHash P "__name__", .str "__name__" 165, (.str "framerune.ops" 271)⟩, ⟨PyData.keyHash P "__doc__", .str "__doc__" 166, .none⟩, ⟨PyData.keyHash P "__package__", .str "__package__" 167, .none⟩, ⟨PyData.keyHash P "__loader__", .str "__loader__" 168, (.builtin "__main__.__loader__#opaque")⟩, ⟨PyData.keyHash P "__spec__", .str "__spec__" 169, .none⟩, ⟨PyData.keyHash P "__annotations__", .str "__annotations__" 170, (.ref 6)⟩, ⟨PyData.keyHash P "__builtins__", .str "__builtins__" 171, (.ref 4)⟩, ⟨PyData.keyHash P "__file__", .str "__file__" 173, (.str "/claim/cut.py" 172)⟩, ⟨PyData.keyHash P "__cached__", .str "__cached__" 174, .none⟩, ⟨PyData.keyHash P "_wall", .str "_wall" 193, (.ref 21)⟩, ⟨PyData.keyHash P "OP_LDC_I4", .str "OP_LDC_I4" 195, (.int 32 194)⟩, ⟨PyData.keyHash P "OP_BR", .str "OP_BR" 197, (.int 56 196)⟩, ⟨PyData.keyHash P "OP_SWITCH", .str "OP_SWITCH" 199, (.int 69 198)⟩, ⟨PyData.keyHash P "OP_CALLVIRT", .str "OP_CALLVIRT" 201, (.int 111 200)⟩, ⟨PyData.keyHash P "OP_LDELEMA", .str "OP_LDELEMA" 203, (.int 143 202)⟩, ⟨PyData.keyHash P "OP_LEAVE", .str "OP_LEAVE" 205, (.int 221 204)⟩] : List DictEntry) ++ en0 P ++ en1 P ++ en2 P ++ en3 P ++ []).toArray 44, #[]⟩
noncomputable def o62_0 : Params → Obj := fun P => ⟨(.type "dict"), none, (.dict #[⟨2, .int 2 558, (.ref 63)⟩, ⟨3, .int 3 562, (.ref 64)⟩, ⟨4, .int 4 566, (.ref 65)⟩, ⟨5, .int 5 570, (.ref 66)⟩, ⟨6, .int 6 574, (.ref 67)⟩, ⟨7, .int 7 578, (.ref 68)⟩, ⟨8, .int 8 582, (.ref 69)⟩, ⟨9, .int 9 586, (.ref 70)⟩, ⟨10, .int 10 590, (.ref 71)⟩, ⟨11, .int 11 594, (.ref 72)⟩, ⟨12, .int 12 598, (.ref 73)⟩, ⟨13, .int 13 602, (.ref 74)⟩, ⟨14, .int 14 606, (.ref 75)⟩, ⟨15, .int 15 610, (.ref 76)⟩, ⟨16, .int 16 614, (.ref 77)⟩, ⟨17, .int 17 618, (.ref 78)⟩, ⟨18, .int 18 622, (.ref 79)⟩, ⟨19, .int 19 626, (.ref 81)⟩, ⟨21, .int 21 630, (.ref 82)⟩, ⟨22, .int 22 635, (.ref 83)⟩, ⟨23, .int 23 639, (.ref 84)⟩, ⟨24, .int 24 643, (.ref 85)⟩, ⟨25, .int 25 647, (.ref 86)⟩, ⟨26, .int 26 651, (.ref 87)⟩, ⟨27, .int 27 655, (.ref 88)⟩, ⟨28, .int 28 659, (.ref 89)⟩, ⟨29, .int 29 663, (.ref 90)⟩, ⟨30, .int 30 667, (.ref 91)⟩, ⟨31, .int 31 671, (.ref 92)⟩, ⟨43, .int 43 675, (.ref 93)⟩, ⟨44, .int 44 679, (.ref 94)⟩, ⟨45, .int 45 683, (.ref 95)⟩, ⟨46, .int 46 687, (.ref 96)⟩, ⟨47, .int 47 691, (.ref 97)⟩, ⟨48, .int 48 695, (.ref 99)⟩, ⟨49, .int 49 699, (.ref 100)⟩, ⟨50, .int 50 703, (.ref 101)⟩, ⟨51, .int 51 707, (.ref 102)⟩, ⟨52, .int 52 711, (.ref 103)⟩, ⟨53, .int 53 715, (.ref 104)⟩, ⟨54, .int 54 719, (.ref 105)⟩, ⟨55, .int 55 723, (.ref 106)⟩, ⟨144, .int 144 727, (.ref 107)⟩, ⟨145, .int 145 731, (.ref 108)⟩, ⟨146, .int 146 735, (.ref 109)⟩, ⟨147, .int 147 739, (.ref 110)⟩, ⟨148, .int 148 743, (.ref 111)⟩, ⟨149, .int 149 747, (.ref 112)⟩, ⟨150, .int 150 751, (.ref 113)⟩, ⟨151, .int 151 755, (.ref 114)⟩, ⟨155, .int 155 759, (.ref 115)⟩, ⟨156, .int 156 763, (.ref 117)⟩, ⟨157, .int 157 766, (.ref 118)⟩, ⟨158, .int 158 769, (.ref 119)⟩, ⟨159, .int 159 772, (.ref 120)⟩, ⟨222, .int 222 775, (.ref 121)⟩] 56), #[]⟩
noncomputable def o63_0 : Params → Obj := fun P => ⟨(.type "tuple"), none, (.seq #[.int 65033 559, .int 0 297, .int 0 560] 0), #[]⟩
noncomputable def o64_0 : Params → Obj := fun P => ⟨(.type "tuple"), none, (.seq #[.int 65033 563, .int 0 297, .int 1 564] 0), #[]⟩
noncomputable def o65_0 : Params → Obj := fun P => ⟨(.type "tuple"), none, (.seq #[.int 65033 567, .int 0 297, .int 2 568] 0), #[]⟩
noncomputable def o66_0 : Params → Obj := fun P => ⟨(.type "tuple"), none, (.seq #[.int 65033 571, .int 0 297, .int 3 572] 0), #[]⟩
noncomputable def o67_0 : Params → Obj := fun P => ⟨(.type "tuple"), none, (.seq #[.int 65036 575, .int 0 297, .int 0 576] 0), #[]⟩
noncomputable def o68_0 : Params → Obj := fun P => ⟨(.type "tuple"), none, (.seq #[.int 65036 579, .int 0 297, .int 1 580] 0), #[]⟩
noncomputable def o69_0 : Params → Obj := fun P => ⟨(.type "tuple"), none, (.seq #[.int 65036 583, .int 0 297, .int 2 584] 0), #[]⟩
noncomputable def o70_0 : Params → Obj := fun P => ⟨(.type "tuple"), none, (.seq #[.int 65036 587, .int 0 297, .int 3 588] 0), #[]⟩
noncomputable def o71_0 : Params → Obj := fun P => ⟨(.type "tuple"), none, (.seq #[.int 65038 591, .int 0 297, .int 0 592] 0), #[]⟩
noncomputable def o72_0 : Params → Obj := fun P => ⟨(.type "tuple"), none, (.seq #[.int 65038 595, .int 0 297, .int 1 596] 0), #[]⟩
noncomputable def o73_0 : Params → Obj := fun P => ⟨(.type "tuple"), none, (.seq #[.int 65038 599, .int 0 297, .int 2 600] 0), #[]⟩
noncomputable def o74_0 : Params → Obj := fun P => ⟨(.type "tuple"), none, (.seq #[.int 65038 603, .int 0 297, .int 3 604] 0), #[]⟩
noncomputable def o75_0 : Params → Obj := fun P => ⟨(.type "tuple"), none, (.seq #[.int 65033 607, .int 1 299, .int 0 608] 0), #[]⟩
noncomputable def o76_0 : Params → Obj := fun P => ⟨(.type "tuple"), none, (.seq #[.int 65034 611, .int 1 299, .int 0 612] 0), #[]⟩
noncomputable def o77_0 : Params → Obj := fun P => ⟨(.type "tuple"), none, (.seq #[.int 65035 615, .int 1 299, .int 0 616] 0), #[]⟩
noncomputable def o78_0 : Params → Obj := fun P => ⟨(.type "tuple"), none, (.seq #[.int 65036 619, .int 1 299, .int 0 620] 0), #[]⟩
noncomputable def o79_0 : Params → Obj := fun P => ⟨(.type "tuple"), none, (.seq #[.int 65037 623, .int 1 299, .int 0 624] 0), #[]⟩
noncomputable def o80_0 : Params → Obj := fun P => ⟨(.type "dict"), none, (.dict #[⟨19, .int 19 626, (.ref 81)⟩, ⟨21, .int 21 630, (.ref 82)⟩, ⟨22, .int 22 635, (.ref 83)⟩, ⟨23, .int 23 639, (.ref 84)⟩, ⟨24, .int 24 643, (.ref 85)⟩, ⟨25, .int 25 647, (.ref 86)⟩, ⟨26, .int 26 651, (.ref 87)⟩, ⟨27, .int 27 655, (.ref 88)⟩, ⟨28, .int 28 659, (.ref 89)⟩, ⟨29, .int 29 663, (.ref 90)⟩, ⟨30, .int 30 667, (.ref 91)⟩, ⟨31, .int 31 671, (.ref 92)⟩, ⟨43, .int 43 675, (.ref 93)⟩, ⟨44, .int 44 679, (.ref 94)⟩, ⟨45, .int 45 683, (.ref 95)⟩, ⟨46, .int 46 687, (.ref 96)⟩, ⟨47, .int 47 691, (.ref 97)⟩] 17), #[]⟩
noncomputable def o81_0 : Params → Obj := fun P => ⟨(.type "tuple"), none, (.seq #[.int 65038 627, .int 1 299, .int 0 628] 0), #[]⟩
noncomputable def o82_0 : Params → Obj := fun P => ⟨(.type "tuple"), none, (.seq #[.int 32 631, .int 0 297, (.int (-1) 633)] 0), #[]⟩
noncomputable def o83_0 : Params → Obj := fun P => ⟨(.type "tuple"), none, (.seq #[.int 32 636, .int 0 297, .int 0 637] 0), #[]⟩
noncomputable def o84_0 : Params → Obj := fun P => ⟨(.type "tuple"), none, (.seq #[.int 32 640, .int 0 297, .int 1 641] 0), #[]⟩
noncomputable def o85_0 : Params → Obj := fun P => ⟨(.type "tuple"), none, (.seq #[.int 32 644, .int 0 297, .int 2 645] 0), #[]⟩
noncomputable def o86_0 : Params → Obj := fun P => ⟨(.type "tuple"), none, (.seq #[.int 32 648, .int 0 297, .int 3 649] 0), #[]⟩
noncomputable def o87_0 : Params → Obj := fun P => ⟨(.type "tuple"), none, (.seq #[.int 32 652, .int 0 297, .int 4 653] 0), #[]⟩
noncomputable def o88_0 : Params → Obj := fun P => ⟨(.type "tuple"), none, (.seq #[.int 32 656, .int 0 297, .int 5 657] 0), #[]⟩
noncomputable def o89_0 : Params → Obj := fun P => ⟨(.type "tuple"), none, (.seq #[.int 32 660, .int 0 297, .int 6 661] 0), #[]⟩
noncomputable def o90_0 : Params → Obj := fun P => ⟨(.type "tuple"), none, (.seq #[.int 32 664, .int 0 297, .int 7 665] 0), #[]⟩
noncomputable def o91_0 : Params → Obj := fun P => ⟨(.type "tuple"), none, (.seq #[.int 32 668, .int 0 297, .int 8 669] 0), #[]⟩
noncomputable def o92_0 : Params → Obj := fun P => ⟨(.type "tuple"), none, (.seq #[.int 32 672, .int 2 301, .int 0 673] 0), #[]⟩
noncomputable def o93_0 : Params → Obj := fun P => ⟨(.type "tuple"), none, (.seq #[.int 56 676, .int 3 303, .int 0 677] 0), #[]⟩
noncomputable def o94_0 : Params → Obj := fun P => ⟨(.type "tuple"), none, (.seq #[.int 57 680, .int 3 303, .int 0 681] 0), #[]⟩
noncomputable def o95_0 : Params → Obj := fun P => ⟨(.type "tuple"), none, (.seq #[.int 58 684, .int 3 303, .int 0 685] 0), #[]⟩
noncomputable def o96_0 : Params → Obj := fun P => ⟨(.type "tuple"), none, (.seq #[.int 59 688, .int 3 303, .int 0 689] 0), #[]⟩
noncomputable def o97_0 : Params → Obj := fun P => ⟨(.type "tuple"), none, (.seq #[.int 60 692, .int 3 303, .int 0 693] 0), #[]⟩
noncomputable def o98_0 : Params → Obj := fun P => ⟨(.type "dict"), none, (.dict #[⟨48, .int 48 695, (.ref 99)⟩, ⟨49, .int 49 699, (.ref 100)⟩, ⟨50, .int 50 703, (.ref 101)⟩, ⟨51, .int 51 707, (.ref 102)⟩, ⟨52, .int 52 711, (.ref 103)⟩, ⟨53, .int 53 715, (.ref 104)⟩, ⟨54, .int 54 719, (.ref 105)⟩, ⟨55, .int 55 723, (.ref 106)⟩, ⟨144, .int 144 727, (.ref 107)⟩, ⟨145, .int 145 731, (.ref 108)⟩, ⟨146, .int 146 735, (.ref 109)⟩, ⟨147, .int 147 739, (.ref 110)⟩, ⟨148, .int 148 743, (.ref 111)⟩, ⟨149, .int 149 747, (.ref 112)⟩, ⟨150, .int 150 751, (.ref 113)⟩, ⟨151, .int 151 755, (.ref 114)⟩, ⟨155, .int 155 759, (.ref 115)⟩] 17), #[]⟩
noncomputable def o99_0 : Params → Obj := fun P => ⟨(.type "tuple"), none, (.seq #[.int 61 696, .int 3 303, .int 0 697] 0), #[]⟩
noncomputable def o100_0 : Params → Obj := fun P => ⟨(.type "tuple"), none, (.seq #[.int 62 700, .int 3 303, .int 0 701] 0), #[]⟩
noncomputable def o101_0 : Params → Obj := fun P => ⟨(.type "tuple"), none, (.seq #[.int 63 704, .int 3 303, .int 0 705] 0), #[]⟩
noncomputable def o102_0 : Params → Obj := fun P => ⟨(.type "tuple"), none, (.seq #[.int 64 708, .int 3 303, .int 0 709] 0), #[]⟩
noncomputable def o103_0 : Params → Obj := fun P => ⟨(.type "tuple"), none, (.seq #[.int 65 712, .int 3 303, .int 0 713] 0), #[]⟩
noncomputable def o104_0 : Params → Obj := fun P => ⟨(.type "tuple"), none, (.seq #[.int 66 716, .int 3 303, .int 0 717] 0), #[]⟩
noncomputable def o105_0 : Params → Obj := fun P => ⟨(.type "tuple"), none, (.seq #[.int 67 720, .int 3 303, .int 0 721] 0), #[]⟩
noncomputable def o106_0 : Params → Obj := fun P => ⟨(.type "tuple"), none, (.seq #[.int 68 724, .int 3 303, .int 0 725] 0), #[]⟩
noncomputable def o107_0 : Params → Obj := fun P => ⟨(.type "tuple"), none, (.seq #[.int 163 728, .int 0 297, .int 3 729] 0), #[]⟩
noncomputable def o108_0 : Params → Obj := fun P => ⟨(.type "tuple"), none, (.seq #[.int 163 732, .int 0 297, .int 4 733] 0), #[]⟩
noncomputable def o109_0 : Params → Obj := fun P => ⟨(.type "tuple"), none, (.seq #[.int 163 736, .int 0 297, .int 5 737] 0), #[]⟩
noncomputable def o110_0 : Params → Obj := fun P => ⟨(.type "tuple"), none, (.seq #[.int 163 740, .int 0 297, .int 6 741] 0), #[]⟩
noncomputable def o111_0 : Params → Obj := fun P => ⟨(.type "tuple"), none, (.seq #[.int 163 744, .int 0 297, .int 7 745] 0), #[]⟩
noncomputable def o112_0 : Params → Obj := fun P => ⟨(.type "tuple"), none, (.seq #[.int 163 748, .int 0 297, .int 8 749] 0), #[]⟩
noncomputable def o113_0 : Params → Obj := fun P => ⟨(.type "tuple"), none, (.seq #[.int 163 752, .int 0 297, .int 9 753] 0), #[]⟩
noncomputable def o114_0 : Params → Obj := fun P => ⟨(.type "tuple"), none, (.seq #[.int 163 756, .int 0 297, .int 11 757] 0), #[]⟩
noncomputable def o115_0 : Params → Obj := fun P => ⟨(.type "tuple"), none, (.seq #[.int 164 760, .int 0 297, .int 11 761] 0), #[]⟩
noncomputable def o116_0 : Params → Obj := fun P => ⟨(.type "dict"), none, (.dict #[⟨156, .int 156 763, (.ref 117)⟩, ⟨157, .int 157 766, (.ref 118)⟩, ⟨158, .int 158 769, (.ref 119)⟩, ⟨159, .int 159 772, (.ref 120)⟩, ⟨222, .int 222 775, (.ref 121)⟩] 5), #[]⟩
noncomputable def o117_0 : Params → Obj := fun P => ⟨(.type "tuple"), none, (.seq #[.int 164 764, .int 0 297, .int 3 765] 0), #[]⟩
noncomputable def o118_0 : Params → Obj := fun P => ⟨(.type "tuple"), none, (.seq #[.int 164 767, .int 0 297, .int 5 768] 0), #[]⟩
noncomputable def o119_0 : Params → Obj := fun P => ⟨(.type "tuple"), none, (.seq #[.int 164 770, .int 0 297, .int 7 771] 0), #[]⟩
noncomputable def o120_0 : Params → Obj := fun P => ⟨(.type "tuple"), none, (.seq #[.int 164 773, .int 0 297, .int 9 774] 0), #[]⟩
noncomputable def o121_0 : Params → Obj := fun P => ⟨(.type "tuple"), none, (.seq #[.int 221 776, .int 3 303, .int 0 777] 0), #[]⟩
noncomputable def t3_3 : Params → Obj := o3_3
noncomputable def t62_0 : Params → Obj := o62_0
noncomputable def t63_0 : Params → Obj := o63_0
noncomputable def t64_0 : Params → Obj := o64_0
noncomputable def t65_0 : Params → Obj := o65_0
noncomputable def t66_0 : Params → Obj := o66_0
noncomputable def t67_0 : Params → Obj := o67_0
noncomputable def t68_0 : Params → Obj := o68_0
noncomputable def t69_0 : Params → Obj := o69_0
noncomputable def t70_0 : Params → Obj := o70_0
noncomputable def t71_0 : Params → Obj := o71_0
noncomputable def t72_0 : Params → Obj := o72_0
noncomputable def t73_0 : Params → Obj := o73_0
noncomputable def t74_0 : Params → Obj := o74_0
noncomputable def t75_0 : Params → Obj := o75_0
noncomputable def t76_0 : Params → Obj := o76_0
noncomputable def t77_0 : Params → Obj := o77_0
noncomputable def t78_0 : Params → Obj := o78_0
noncomputable def t79_0 : Params → Obj := o79_0
noncomputable def t80_0 : Params → Obj := o80_0
noncomputable def t81_0 : Params → Obj := o81_0
noncomputable def t82_0 : Params → Obj := o82_0
noncomputable def t83_0 : Params → Obj := o83_0
noncomputable def t84_0 : Params → Obj := o84_0
noncomputable def t85_0 : Params → Obj := o85_0
noncomputable def t86_0 : Params → Obj := o86_0
noncomputable def t87_0 : Params → Obj := o87_0
noncomputable def t88_0 : Params → Obj := o88_0
noncomputable def t89_0 : Params → Obj := o89_0
noncomputable def t90_0 : Params → Obj := o90_0
noncomputable def t91_0 : Params → Obj := o91_0
noncomputable def t92_0 : Params → Obj := o92_0
noncomputable def t93_0 : Params → Obj := o93_0
noncomputable def t94_0 : Params → Obj := o94_0
noncomputable def t95_0 : Params → Obj := o95_0
noncomputable def t96_0 : Params → Obj := o96_0
noncomputable def t97_0 : Params → Obj := o97_0
noncomputable def t98_0 : Params → Obj := o98_0
noncomputable def t99_0 : Params → Obj := o99_0
noncomputable def t100_0 : Params → Obj := o100_0
noncomputable def t101_0 : Params → Obj := o101_0
noncomputable def t102_0 : Params → Obj := o102_0
noncomputable def t103_0 : Params → Obj := o103_0
noncomputable def t104_0 : Params → Obj := o104_0
noncomputable def t105_0 : Params → Obj := o105_0
noncomputable def t106_0 : Params → Obj := o106_0
noncomputable def t107_0 : Params → Obj := o107_0
noncomputable def t108_0 : Params → Obj := o108_0
noncomputable def t109_0 : Params → Obj := o109_0
noncomputable def t110_0 : Params → Obj := o110_0
noncomputable def t111_0 : Params → Obj := o111_0
noncomputable def t112_0 : Params → Obj := o112_0
noncomputable def t113_0 : Params → Obj := o113_0
noncomputable def t114_0 : Params → Obj := o114_0
noncomputable def t115_0 : Params → Obj := o115_0
noncomputable def t116_0 : Params → Obj := o116_0
noncomputable def t117_0 : Params → Obj := o117_0
noncomputable def t118_0 : Params → Obj := o118_0
noncomputable def t119_0 : Params → Obj := o119_0
noncomputable def t120_0 : Params → Obj := o120_0
noncomputable def t121_0 : Params → Obj := o121_0
noncomputable def T4 : Params → BT := fun P => (N (t0_0 P) (N (boot_o_1 P) (N (t3_3 P) (N (boot_o_7 P) (N (t15_0 P) (N (t31_0 P) (N (t63_0 P) E E) (N (t95_0 P) E E)) (N (t47_0 P) (N (t79_0 P) E E) (N (t111_0 P) E E))) (N (t23_0 P) (N (t39_0 P) (N (t71_0 P) E E) (N (t103_0 P) E E)) (N (t55_0 P) (N (t87_0 P) E E) (N (t119_0 P) E E)))) (N (t11_0 P) (N (t19_0 P) (N (t35_0 P) (N (t67_0 P) E E) (N (t99_0 P) E E)) (N (t51_0 P) (N (t83_0 P) E E) (N (t115_0 P) E E))) (N (t27_0 P) (N (t43_0 P) (N (t75_0 P) E E) (N (t107_0 P) E E)) (N (t59_0 P) (N (t91_0 P) E E) E)))) (N (boot_o_5 P) (N (boot_o_9 P) (N (t17_0 P) (N (t33_0 P) (N (t65_0 P) E E) (N (t97_0 P) E E)) (N (t49_0 P) (N (t81_0 P) E E) (N (t113_0 P) E E))) (N (t25_0 P) (N (t41_0 P) (N (t73_0 P) E E) (N (t105_0 P) E E)) (N (t57_0 P) (N (t89_0 P) E E) (N (t121_0 P) E E)))) (N (t13_0 P) (N (t21_0 P) (N (t37_0 P) (N (t69_0 P) E E) (N (t101_0 P) E E)) (N (t53_0 P) (N (t85_0 P) E E) (N (t117_0 P) E E))) (N (t29_0 P) (N (t45_0 P) (N (t77_0 P) E E) (N (t109_0 P) E E)) (N (t61_0 P) (N (t93_0 P) E E) E))))) (N (t2_0 P) (N (boot_o_4 P) (N (boot_o_8 P) (N (o16_0 P) (N (t32_0 P) (N (t64_0 P) E E) (N (t96_0 P) E E)) (N (t48_0 P) (N (t80_0 P) E E) (N (t112_0 P) E E))) (N (t24_0 P) (N (t40_0 P) (N (t72_0 P) E E) (N (t104_0 P) E E)) (N (t56_0 P) (N (t88_0 P) E E) (N (t120_0 P) E E)))) (N (o12_2 P) (N (t20_0 P) (N (t36_0 P) (N (t68_0 P) E E) (N (t100_0 P) E E)) (N (t52_0 P) (N (t84_0 P) E E) (N (t116_0 P) E E))) (N (t28_0 P) (N (t44_0 P) (N (t76_0 P) E E) (N (t108_0 P) E E)) (N (t60_0 P) (N (t92_0 P) E E) E)))) (N (boot_o_6 P) (N (boot_o_10 P) (N (t18_0 P) (N (t34_0 P) (N (t66_0 P) E E) (N (t98_0 P) E E)) (N (t50_0 P) (N (t82_0 P) E E) (N (t114_0 P) E E))) (N (o26_0 P) (N (t42_0 P) (N (t74_0 P) E E) (N (t106_0 P) E E)) (N (t58_0 P) (N (t90_0 P) E E) E))) (N (t14_0 P) (N (t22_0 P) (N (t38_1 P) (N (t70_0 P) E E) (N (t102_0 P) E E)) (N (t54_0 P) (N (t86_0 P) E E) (N (t118_0 P) E E))) (N (o30_0 P) (N (o46_0 P) (N (t78_0 P) E E) (N (t110_0 P) E E)) (N (t62_0 P) (N (t94_0 P) E E) E))))))
noncomputable def sts3 : List Stmt := [st 36]
noncomputable def Lg3f : World → OsState → Option (Flow × SharedT × Code × Pos) := fun w os => segRunT treeTable PySem.Challenge.pw_xm0288_01 (w.withFollow "special-get-raises" false) 11 ann_ 1 1279 (⟨T3 (w.withFollow "special-get-raises" false).params, 62, {}, Array.mk [], boot_drawn, 558, os⟩ : SharedT) (piecesOf sts3 env_ cE ⟨43, 0, 43, 7⟩ B_)
noncomputable def Rg3f : World → OsState → Option (Flow × SharedT × Code × Pos) := fun w os => some (.next, (⟨T4 (w.withFollow "special-get-raises" false).params, 122, {}, Array.mk [], boot_drawn, 784, os⟩ : SharedT), cE, ⟨44, 0, 44, 5⟩)
theorem Pg3f : Lg3f = Rg3f := (by kernel_rfl)
noncomputable def Lg3t : World → OsState → Option (Flow × SharedT × Code × Pos) := fun w os => segRunT treeTable PySem.Challenge.pw_xm0288_01 (w.withFollow "special-get-raises" true) 11 ann_ 1 1279 (⟨T3 (w.withFollow "special-get-raises" true).params, 62, {}, Array.mk [], boot_drawn, 558, os⟩ : SharedT) (piecesOf sts3 env_ cE ⟨43, 0, 43, 7⟩ B_)
noncomputable def Rg3t : World → OsState → Option (Flow × SharedT × Code × Pos) := fun w os => some (.next, (⟨T4 (w.withFollow "special-get-raises" true).params, 122, {}, Array.mk [], boot_drawn, 784, os⟩ : SharedT), cE, ⟨44, 0, 44, 5⟩)
theorem Pg3t : Lg3t = Rg3t := (by kernel_rfl)
noncomputable def Lg3 : World → OsState → Option (Flow × SharedT × Code × Pos) := fun w os => segRunT treeTable PySem.Challenge.pw_xm0288_01 w 11 ann_ 1 1279 (⟨T3 w.params, 62, {}, Array.mk [], boot_drawn, 558, os⟩ : SharedT) (piecesOf sts3 env_ cE ⟨43, 0, 43, 7⟩ B_)
noncomputable def Rg3 : World → OsState → Option (Flow × SharedT × Code × Pos) := fun w os => some (.next, (⟨T4 w.params, 122, {}, Array.mk [], boot_drawn, 784, os⟩ : SharedT), cE, ⟨44, 0, 44, 5⟩)
theorem Pg3 : Lg3 = Rg3 := funext fun w => byRow2 "special-get-raises" (P := fun w => Lg3 w = Rg3 w) (fun w => congrFun Pg3f w) (fun w => congrFun Pg3t w) w
noncomputable def en4 : Params → List DictEntry := fun P => [⟨PyData.keyHash P "SHORT_BYTE", .str "SHORT_BYTE" 796, (.ref 122)⟩, ⟨PyData.keyHash P "SHORT_RUN", .str "SHORT_RUN" 814, (.ref 123)⟩]
noncomputable def o3_4 : Params → Obj := fun P => ⟨(.type "dict"), none, .dict (([⟨PyData.keyHash P "__name__", .str "__name__" 165, (.str "framerune.ops" 271)⟩, ⟨PyData.keyHash P "__doc__", .str "__doc__" 166, .none⟩, ⟨PyData.keyHash P "__package__", .str "__package__" 167, .none⟩, ⟨PyData.keyHash P "__loader__", .str "__loader__" 168, (.builtin "__main__.__loader__#opaque")⟩, ⟨PyData.keyHash P "__spec__", .str "__spec__" 169, .none⟩, ⟨PyData.keyHash P "__annotations__", .str "__annotations__" 170, (.ref 6)⟩, ⟨PyData.keyHash P "__builtins__", .str "__builtins__" 171, (.ref 4)⟩, ⟨PyData.keyHash P "__file__", .str "__file__" 173, (.str "/claim/cut.py" 172)⟩, ⟨PyData.keyHash P "__cached__", .str "__cached__" 174, .none⟩, ⟨PyData.keyHash P "_wall", .str "_wall" 193, (.ref 21)⟩, ⟨PyData.keyHash P "OP_LDC_I4", .str "OP_LDC_I4" 195, (.int 32 194)⟩, ⟨PyData.keyHash P "OP_BR", .str "OP_BR" 197, (.int 56 196)⟩, ⟨PyData.keyHash P "OP_SWITCH", .str "OP_SWITCH" 199, (.int 69 198)⟩, ⟨PyData.keyHash P "OP_CALLVIRT", .str "OP_CALLVIRT" 201, (.int 111 200)⟩, ⟨PyData.keyHash P "OP_LDELEMA", .str "OP_LDELEMA" 203, (.int 143 202)⟩, ⟨PyData.keyHash P "OP_LEAVE", .str "OP_LEAVE" 205, (.int 221 204)⟩] : List DictEntry) ++ en0 P ++ en1 P ++ en2 P ++ en3 P ++ en4 P ++ []).toArray 46, #[]⟩
noncomputable def o122_0 : Params → Obj := fun P => ⟨(.type "dict"), none, (.dict #[⟨65033, .int 65033 206, (.int 14 784)⟩, ⟨65034, .int 65034 208, (.int 15 785)⟩, ⟨65035, .int 65035 210, (.int 16 786)⟩, ⟨65036, .int 65036 212, (.int 17 787)⟩, ⟨65037, .int 65037 214, (.int 18 788)⟩, ⟨65038, .int 65038 216, (.int 19 789)⟩] 6), #[]⟩
noncomputable def o123_0 : Params → Obj := fun P => ⟨(.type "dict"), none, (.dict #[⟨65033, .int 65033 206, (.ref 124)⟩, ⟨65036, .int 65036 212, (.ref 125)⟩, ⟨65038, .int 65038 216, (.ref 126)⟩, ⟨32, .int 32 194, (.ref 127)⟩] 4), #[]⟩
noncomputable def o124_0 : Params → Obj := fun P => ⟨(.type "tuple"), none, (.seq #[.int 2 797, .int 0 798, .int 4 799] 0), #[]⟩
noncomputable def o125_0 : Params → Obj := fun P => ⟨(.type "tuple"), none, (.seq #[.int 6 800, .int 0 801, .int 4 802] 0), #[]⟩
noncomputable def o126_0 : Params → Obj := fun P => ⟨(.type "tuple"), none, (.seq #[.int 10 803, .int 0 804, .int 4 805] 0), #[]⟩
noncomputable def o127_0 : Params → Obj := fun P => ⟨(.type "tuple"), none, (.seq #[.int 21 806, (.int (-1) 808), .int 10 809] 0), #[]⟩
noncomputable def t3_4 : Params → Obj := o3_4
noncomputable def t122_0 : Params → Obj := o122_0
noncomputable def t123_0 : Params → Obj := o123_0
noncomputable def t124_0 : Params → Obj := o124_0
noncomputable def t125_0 : Params → Obj := o125_0
noncomputable def t126_0 : Params → Obj := o126_0
noncomputable def t127_0 : Params → Obj := o127_0
noncomputable def T5 : Params → BT := fun P => (N (t0_0 P) (N (boot_o_1 P) (N (t3_4 P) (N (boot_o_7 P) (N (t15_0 P) (N (t31_0 P) (N (t63_0 P) (N (t127_0 P) E E) E) (N (t95_0 P) E E)) (N (t47_0 P) (N (t79_0 P) E E) (N (t111_0 P) E E))) (N (t23_0 P) (N (t39_0 P) (N (t71_0 P) E E) (N (t103_0 P) E E)) (N (t55_0 P) (N (t87_0 P) E E) (N (t119_0 P) E E)))) (N (t11_0 P) (N (t19_0 P) (N (t35_0 P) (N (t67_0 P) E E) (N (t99_0 P) E E)) (N (t51_0 P) (N (t83_0 P) E E) (N (t115_0 P) E E))) (N (t27_0 P) (N (t43_0 P) (N (t75_0 P) E E) (N (t107_0 P) E E)) (N (t59_0 P) (N (t91_0 P) E E) (N (t123_0 P) E E))))) (N (boot_o_5 P) (N (boot_o_9 P) (N (t17_0 P) (N (t33_0 P) (N (t65_0 P) E E) (N (t97_0 P) E E)) (N (t49_0 P) (N (t81_0 P) E E) (N (t113_0 P) E E))) (N (t25_0 P) (N (t41_0 P) (N (t73_0 P) E E) (N (t105_0 P) E E)) (N (t57_0 P) (N (t89_0 P) E E) (N (t121_0 P) E E)))) (N (t13_0 P) (N (t21_0 P) (N (t37_0 P) (N (t69_0 P) E E) (N (t101_0 P) E E)) (N (t53_0 P) (N (t85_0 P) E E) (N (t117_0 P) E E))) (N (t29_0 P) (N (t45_0 P) (N (t77_0 P) E E) (N (t109_0 P) E E)) (N (t61_0 P) (N (t93_0 P) E E) (N (t125_0 P) E E)))))) (N (t2_0 P) (N (boot_o_4 P) (N (boot_o_8 P) (N (o16_0 P) (N (t32_0 P) (N (t64_0 P) E E) (N (t96_0 P) E E)) (N (t48_0 P) (N (t80_0 P) E E) (N (t112_0 P) E E))) (N (t24_0 P) (N (t40_0 P) (N (t72_0 P) E E) (N (t104_0 P) E E)) (N (t56_0 P) (N (t88_0 P) E E) (N (t120_0 P) E E)))) (N (o12_2 P) (N (t20_0 P) (N (t36_0 P) (N (t68_0 P) E E) (N (t100_0 P) E E)) (N (t52_0 P) (N (t84_0 P) E E) (N (t116_0 P) E E))) (N (t28_0 P) (N (t44_0 P) (N (t76_0 P) E E) (N (t108_0 P) E E)) (N (t60_0 P) (N (t92_0 P) E E) (N (t124_0 P) E E))))) (N (boot_o_6 P) (N (boot_o_10 P) (N (t18_0 P) (N (t34_0 P) (N (t66_0 P) E E) (N (t98_0 P) E E)) (N (t50_0 P) (N (t82_0 P) E E) (N (t114_0 P) E E))) (N (o26_0 P) (N (t42_0 P) (N (t74_0 P) E E) (N (t106_0 P) E E)) (N (t58_0 P) (N (t90_0 P) E E) (N (t122_0 P) E E)))) (N (t14_0 P) (N (t22_0 P) (N (t38_1 P) (N (t70_0 P) E E) (N (t102_0 P) E E)) (N (t54_0 P) (N (t86_0 P) E E) (N (t118_0 P) E E))) (N (o30_0 P) (N (o46_0 P) (N (t78_0 P) E E) (N (t110_0 P) E E)) (N (t62_0 P) (N (t94_0 P) E E) (N (t126_0 P) E E)))))))
noncomputable def sts4 : List Stmt := [st 37, st 38]
noncomputable def Lg4f : World → OsState → Option (Flow × SharedT × Code × Pos) := fun w os => segRunT treeTable PySem.Challenge.pw_xm0288_01 (w.withFollow "special-get-raises" false) 11 ann_ 1 182 (⟨T4 (w.withFollow "special-get-raises" false).params, 122, {}, Array.mk [], boot_drawn, 784, os⟩ : SharedT) (piecesOf sts4 env_ cE ⟨44, 0, 44, 5⟩ B_)
noncomputable def Rg4f : World → OsState → Option (Flow × SharedT × Code × Pos) := fun w os => some (.next, (⟨T5 (w.withFollow "special-get-raises" false).params, 128, {}, Array.mk [], boot_drawn, 815, os⟩ : SharedT), cE, ⟨46, 0, 46, 9⟩)
theorem Pg4f : Lg4f = Rg4f := (by kernel_rfl)
noncomputable def Lg4t : World → OsState → Option (Flow × SharedT × Code × Pos) := fun w os => segRunT treeTable PySem.Challenge.pw_xm0288_01 (w.withFollow "special-get-raises" true) 11 ann_ 1 182 (⟨T4 (w.withFollow "special-get-raises" true).params, 122, {}, Array.mk [], boot_drawn, 784, os⟩ : SharedT) (piecesOf sts4 env_ cE ⟨44, 0, 44, 5⟩ B_)
noncomputable def Rg4t : World → OsState → Option (Flow × SharedT × Code × Pos) := fun w os => some (.next, (⟨T5 (w.withFollow "special-get-raises" true).params, 128, {}, Array.mk [], boot_drawn, 815, os⟩ : SharedT), cE, ⟨46, 0, 46, 9⟩)
theorem Pg4t : Lg4t = Rg4t := (by kernel_rfl)
noncomputable def Lg4 : World → OsState → Option (Flow × SharedT × Code × Pos) := fun w os => segRunT treeTable PySem.Challenge.pw_xm0288_01 w 11 ann_ 1 182 (⟨T4 w.params, 122, {}, Array.mk [], boot_drawn, 784, os⟩ : SharedT) (piecesOf sts4 env_ cE ⟨44, 0, 44, 5⟩ B_)
noncomputable def Rg4 : World → OsState → Option (Flow × SharedT × Code × Pos) := fun w os => some (.next, (⟨T5 w.params, 128, {}, Array.mk [], boot_drawn, 815, os⟩ : SharedT), cE, ⟨46, 0, 46, 9⟩)
theorem Pg4 : Lg4 = Rg4 := funext fun w => byRow2 "special-get-raises" (P := fun w => Lg4 w = Rg4 w) (fun w => congrFun Pg4f w) (fun w => congrFun Pg4t w) w
noncomputable def en5 : Params → List DictEntry := fun P => [⟨PyData.keyHash P "SHORT_ELEM", .str "SHORT_ELEM" 893, (.ref 128)⟩]
noncomputable def o3_5 : Params → Obj := fun P => ⟨(.type "dict"), none, .dict (([⟨PyData.keyHash P "__name__", .str "__name__" 165, (.str "framerune.ops" 271)⟩, ⟨PyData.keyHash P "__doc__", .str "__doc__" 166, .none⟩, ⟨PyData.keyHash P "__package__", .str "__package__" 167, .none⟩, ⟨PyData.keyHash P "__loader__", .str "__loader__" 168, (.builtin "__main__.__loader__#opaque")⟩, ⟨PyData.keyHash P "__spec__", .str "__spec__" 169, .none⟩, ⟨PyData.keyHash P "__annotations__", .str "__annotations__" 170, (.ref 6)⟩, ⟨PyData.keyHash P "__builtins__", .str "__builtins__" 171, (.ref 4)⟩, ⟨PyData.keyHash P "__file__", .str "__file__" 173, (.str "/claim/cut.py" 172)⟩, ⟨PyData.keyHash P "__cached__", .str "__cached__" 174, .none⟩, ⟨PyData.keyHash P "_wall", .str "_wall" 193, (.ref 21)⟩, ⟨PyData.keyHash P "OP_LDC_I4", .str "OP_LDC_I4" 195, (.int 32 194)⟩, ⟨PyData.keyHash P "OP_BR", .str "OP_BR" 197, (.int 56 196)⟩, ⟨PyData.keyHash P "OP_SWITCH", .str "OP_SWITCH" 199, (.int 69 198)⟩, ⟨PyData.keyHash P "OP_CALLVIRT", .str "OP_CALLVIRT" 201, (.int 111 200)⟩, ⟨PyData.keyHash P "OP_LDELEMA", .str "OP_LDELEMA" 203, (.int 143 202)⟩, ⟨PyData.keyHash P "OP_LEAVE", .str "OP_LEAVE" 205, (.int 221 204)⟩] : List DictEntry) ++ en0 P ++ en1 P ++ en2 P ++ en3 P ++ en4 P ++ en5 P ++ []).toArray 47, #[]⟩
noncomputable def o128_0 : Params → Obj := fun P => ⟨(.type "dict"), none, (.dict #[⟨1794861788607281380, .ref 129, (.int 144 817)⟩, ⟨3904145161724911677, .ref 130, (.int 145 820)⟩, ⟨(-8034958155882641514), .ref 131, (.int 146 823)⟩, ⟨5518711888854213736, .ref 132, (.int 147 826)⟩, ⟨(-6420391428753339455), .ref 133, (.int 148 829)⟩, ⟨7133278615983515795, .ref 134, (.int 149 832)⟩, ⟨(-9204182084608405524), .ref 135, (.int 150 835)⟩, ⟨(-7589615357479103465), .ref 136, (.int 151 838)⟩, ⟨(-4296098006411526456), .ref 137, (.int 155 841)⟩, ⟨5088379139674858389, .ref 138, (.int 156 844)⟩, ⟨2304588483819792320, .ref 139, (.int 157 847)⟩, ⟨3919155210949094379, .ref 140, (.int 158 850)⟩, ⟨(-5910664733540828515), .ref 141, (.int 159 853)⟩] 13), #[]⟩
noncomputable def o129_0 : Params → Obj := fun P => ⟨(.type "tuple"), none, (.seq #[.int 163 815, .int 3 816] 0), #[]⟩
noncomputable def o130_0 : Params → Obj := fun P => ⟨(.type "tuple"), none, (.seq #[.int 163 818, .int 4 819] 0), #[]⟩
noncomputable def o131_0 : Params → Obj := fun P => ⟨(.type "tuple"), none, (.seq #[.int 163 821, .int 5 822] 0), #[]⟩
noncomputable def o132_0 : Params → Obj := fun P => ⟨(.type "tuple"), none, (.seq #[.int 163 824, .int 6 825] 0), #[]⟩
noncomputable def o133_0 : Params → Obj := fun P => ⟨(.type "tuple"), none, (.seq #[.int 163 827, .int 7 828] 0), #[]⟩
noncomputable def o134_0 : Params → Obj := fun P => ⟨(.type "tuple"), none, (.seq #[.int 163 830, .int 8 831] 0), #[]⟩
noncomputable def o135_0 : Params → Obj := fun P => ⟨(.type "tuple"), none, (.seq #[.int 163 833, .int 9 834] 0), #[]⟩
noncomputable def o136_0 : Params → Obj := fun P => ⟨(.type "tuple"), none, (.seq #[.int 163 836, .int 11 837] 0), #[]⟩
noncomputable def o137_0 : Params → Obj := fun P => ⟨(.type "tuple"), none, (.seq #[.int 164 839, .int 11 840] 0), #[]⟩
noncomputable def o138_0 : Params → Obj := fun P => ⟨(.type "tuple"), none, (.seq #[.int 164 842, .int 3 843] 0), #[]⟩
noncomputable def o139_0 : Params → Obj := fun P => ⟨(.type "tuple"), none, (.seq #[.int 164 845, .int 5 846] 0), #[]⟩
noncomputable def o140_0 : Params → Obj := fun P => ⟨(.type "tuple"), none, (.seq #[.int 164 848, .int 7 849] 0), #[]⟩
noncomputable def o141_0 : Params → Obj := fun P => ⟨(.type "tuple"), none, (.seq #[.int 164 851, .int 9 852] 0), #[]⟩
noncomputable def t3_5 : Params → Obj := o3_5
noncomputable def t128_0 : Params → Obj := o128_0
noncomputable def t129_0 : Params → Obj := o129_0
noncomputable def t130_0 : Params → Obj := o130_0
noncomputable def t131_0 : Params → Obj := o131_0
noncomputable def t132_0 : Params → Obj := o132_0
noncomputable def t133_0 : Params → Obj := o133_0
noncomputable def t134_0 : Params → Obj := o134_0
noncomputable def t135_0 : Params → Obj := o135_0
noncomputable def t136_0 : Params → Obj := o136_0
noncomputable def t137_0 : Params → Obj := o137_0
noncomputable def t138_0 : Params → Obj := o138_0
noncomputable def t139_0 : Params → Obj := o139_0
noncomputable def t140_0 : Params → Obj := o140_0
noncomputable def t141_0 : Params → Obj := o141_0
noncomputable def T6 : Params → BT := fun P => (N (t0_0 P) (N (boot_o_1 P) (N (t3_5 P) (N (boot_o_7 P) (N (t15_0 P) (N (t31_0 P) (N (t63_0 P) (N (t127_0 P) E E) E) (N (t95_0 P) E E)) (N (t47_0 P) (N (t79_0 P) E E) (N (t111_0 P) E E))) (N (t23_0 P) (N (t39_0 P) (N (t71_0 P) (N (t135_0 P) E E) E) (N (t103_0 P) E E)) (N (t55_0 P) (N (t87_0 P) E E) (N (t119_0 P) E E)))) (N (t11_0 P) (N (t19_0 P) (N (t35_0 P) (N (t67_0 P) (N (t131_0 P) E E) E) (N (t99_0 P) E E)) (N (t51_0 P) (N (t83_0 P) E E) (N (t115_0 P) E E))) (N (t27_0 P) (N (t43_0 P) (N (t75_0 P) (N (t139_0 P) E E) E) (N (t107_0 P) E E)) (N (t59_0 P) (N (t91_0 P) E E) (N (t123_0 P) E E))))) (N (boot_o_5 P) (N (boot_o_9 P) (N (t17_0 P) (N (t33_0 P) (N (t65_0 P) (N (t129_0 P) E E) E) (N (t97_0 P) E E)) (N (t49_0 P) (N (t81_0 P) E E) (N (t113_0 P) E E))) (N (t25_0 P) (N (t41_0 P) (N (t73_0 P) (N (t137_0 P) E E) E) (N (t105_0 P) E E)) (N (t57_0 P) (N (t89_0 P) E E) (N (t121_0 P) E E)))) (N (t13_0 P) (N (t21_0 P) (N (t37_0 P) (N (t69_0 P) (N (t133_0 P) E E) E) (N (t101_0 P) E E)) (N (t53_0 P) (N (t85_0 P) E E) (N (t117_0 P) E E))) (N (t29_0 P) (N (t45_0 P) (N (t77_0 P) (N (t141_0 P) E E) E) (N (t109_0 P) E E)) (N (t61_0 P) (N (t93_0 P) E E) (N (t125_0 P) E E)))))) (N (t2_0 P) (N (boot_o_4 P) (N (boot_o_8 P) (N (o16_0 P) (N (t32_0 P) (N (t64_0 P) (N (t128_0 P) E E) E) (N (t96_0 P) E E)) (N (t48_0 P) (N (t80_0 P) E E) (N (t112_0 P) E E))) (N (t24_0 P) (N (t40_0 P) (N (t72_0 P) (N (t136_0 P) E E) E) (N (t104_0 P) E E)) (N (t56_0 P) (N (t88_0 P) E E) (N (t120_0 P) E E)))) (N (o12_2 P) (N (t20_0 P) (N (t36_0 P) (N (t68_0 P) (N (t132_0 P) E E) E) (N (t100_0 P) E E)) (N (t52_0 P) (N (t84_0 P) E E) (N (t116_0 P) E E))) (N (t28_0 P) (N (t44_0 P) (N (t76_0 P) (N (t140_0 P) E E) E) (N (t108_0 P) E E)) (N (t60_0 P) (N (t92_0 P) E E) (N (t124_0 P) E E))))) (N (boot_o_6 P) (N (boot_o_10 P) (N (t18_0 P) (N (t34_0 P) (N (t66_0 P) (N (t130_0 P) E E) E) (N (t98_0 P) E E)) (N (t50_0 P) (N (t82_0 P) E E) (N (t114_0 P) E E))) (N (o26_0 P) (N (t42_0 P) (N (t74_0 P) (N (t138_0 P) E E) E) (N (t106_0 P) E E)) (N (t58_0 P) (N (t90_0 P) E E) (N (t122_0 P) E E)))) (N (t14_0 P) (N (t22_0 P) (N (t38_1 P) (N (t70_0 P) (N (t134_0 P) E E) E) (N (t102_0 P) E E)) (N (t54_0 P) (N (t86_0 P) E E) (N (t118_0 P) E E))) (N (o30_0 P) (N (o46_0 P) (N (t78_0 P) E E) (N (t110_0 P) E E)) (N (t62_0 P) (N (t94_0 P) E E) (N (t126_0 P) E E)))))))
noncomputable def sts5 : List Stmt := [st 39]
noncomputable def Lg5f : World → OsState → Option (Flow × SharedT × Code × Pos) := fun w os => segRunT treeTable PySem.Challenge.pw_xm0288_01 (w.withFollow "special-get-raises" false) 11 ann_ 1 427 (⟨T5 (w.withFollow "special-get-raises" false).params, 128, {}, Array.mk [], boot_drawn, 815, os⟩ : SharedT) (piecesOf sts5 env_ cE ⟨46, 0, 46, 9⟩ B_)
noncomputable def Rg5f : World → OsState → Option (Flow × SharedT × Code × Pos) := fun w os => some (.next, (⟨T6 (w.withFollow "special-get-raises" false).params, 142, {}, Array.mk [], boot_drawn, 894, os⟩ : SharedT), cE, ⟨47, 0, 47, 10⟩)
theorem Pg5f : Lg5f = Rg5f := (by kernel_rfl)
noncomputable def Lg5t : World → OsState → Option (Flow × SharedT × Code × Pos) := fun w os => segRunT treeTable PySem.Challenge.pw_xm0288_01 (w.withFollow "special-get-raises" true) 11 ann_ 1 427 (⟨T5 (w.withFollow "special-get-raises" true).params, 128, {}, Array.mk [], boot_drawn, 815, os⟩ : SharedT) (piecesOf sts5 env_ cE ⟨46, 0, 46, 9⟩ B_)
noncomputable def Rg5t : World → OsState → Option (Flow × SharedT × Code × Pos) := fun w os => some (.next, (⟨T6 (w.withFollow "special-get-raises" true).params, 142, {}, Array.mk [], boot_drawn, 894, os⟩ : SharedT), cE, ⟨47, 0, 47, 10⟩)
theorem Pg5t : Lg5t = Rg5t := (by kernel_rfl)
noncomputable def Lg5 : World → OsState → Option (Flow × SharedT × Code × Pos) := fun w os => segRunT treeTable PySem.Challenge.pw_xm0288_01 w 11 ann_ 1 427 (⟨T5 w.params, 128, {}, Array.mk [], boot_drawn, 815, os⟩ : SharedT) (piecesOf sts5 env_ cE ⟨46, 0, 46, 9⟩ B_)
noncomputable def Rg5 : World → OsState → Option (Flow × SharedT × Code × Pos) := fun w os => some (.next, (⟨T6 w.params, 142, {}, Array.mk [], boot_drawn, 894, os⟩ : SharedT), cE, ⟨47, 0, 47, 10⟩)
theorem Pg5 : Lg5 = Rg5 := funext fun w => byRow2 "special-get-raises" (P := fun w => Lg5 w = Rg5 w) (fun w => congrFun Pg5f w) (fun w => congrFun Pg5t w) w
noncomputable def en6 : Params → List DictEntry := fun P => [⟨PyData.keyHash P "op_sort", .str "op_sort" 900, (.ref 148)⟩, ⟨PyData.keyHash P "op_size", .str "op_size" 907, (.ref 155)⟩, ⟨PyData.keyHash P "is_branch", .str "is_branch" 914, (.ref 162)⟩, ⟨PyData.keyHash P "targets", .str "targets" 921, (.ref 169)⟩, ⟨PyData.keyHash P "prefix_goal", .str "prefix_goal" 928, (.ref 176)⟩, ⟨PyData.keyHash P "jump_octet", .str "jump_octet" 935, (.ref 183)⟩, ⟨PyData.keyHash P "short_form", .str "short_form" 945, (.ref 190)⟩, ⟨PyData.keyHash P "MOST_INDEX", .str "MOST_INDEX" 949, (.int 65534 948)⟩, ⟨PyData.keyHash P "MOST_TOKEN", .str "MOST_TOKEN" 951, (.int 4294967295 950)⟩, ⟨PyData.keyHash P "TWO_OCTETS", .str "TWO_OCTETS" 953, (.int 254 952)⟩]
noncomputable def o3_6 : Params → Obj := fun P => ⟨(.type "dict"), none, .dict (([⟨PyData.keyHash P "__name__", .str "__name__" 165, (.str "framerune.ilcode" 946)⟩, ⟨PyData.keyHash P "__doc__", .str "__doc__" 166, .none⟩, ⟨PyData.keyHash P "__package__", .str "__package__" 167, .none⟩, ⟨PyData.keyHash P "__loader__", .str "__loader__" 168, (.builtin "__main__.__loader__#opaque")⟩, ⟨PyData.keyHash P "__spec__", .str "__spec__" 169, .none⟩, ⟨PyData.keyHash P "__annotations__", .str "__annotations__" 170, (.ref 6)⟩, ⟨PyData.keyHash P "__builtins__", .str "__builtins__" 171, (.ref 4)⟩, ⟨PyData.keyHash P "__file__", .str "__file__" 173, (.str "/claim/cut.py" 172)⟩, ⟨PyData.keyHash P "__cached__", .str "__cached__" 174, .none⟩, ⟨PyData.keyHash P "_wall", .str "_wall" 193, (.ref 21)⟩, ⟨PyData.keyHash P "OP_LDC_I4", .str "OP_LDC_I4" 195, (.int 32 194)⟩, ⟨PyData.keyHash P "OP_BR", .str "OP_BR" 197, (.int 56 196)⟩, ⟨PyData.keyHash P "OP_SWITCH", .str "OP_SWITCH" 199, (.int 69 198)⟩, ⟨PyData.keyHash P "OP_CALLVIRT", .str "OP_CALLVIRT" 201, (.int 111 200)⟩, ⟨PyData.keyHash P "OP_LDELEMA", .str "OP_LDELEMA" 203, (.int 143 202)⟩, ⟨PyData.keyHash P "OP_LEAVE", .str "OP_LEAVE" 205, (.int 221 204)⟩] : List DictEntry) ++ en0 P ++ en1 P ++ en2 P ++ en3 P ++ en4 P ++ en5 P ++ en6 P ++ []).toArray 57, #[]⟩
noncomputable def o12_3 : Params → Obj := fun P => ⟨.none, none, (.fields #[.int 1 0, .int 0 0, .ref 20, .int 19 0, .int 0 0, .ref 27, .int 24 0, .int 0 0, .ref 47, .int 48 0, .int 0 0, .ref 147, .int 50 0, .int 0 0, .ref 154, .int 54 0, .int 0 0, .ref 161, .int 56 0, .int 0 0, .ref 168, .int 62 0, .int 0 0, .ref 175, .int 68 0, .int 0 0, .ref 182, .int 72 0, .int 0 0, .ref 189]), #[]⟩
noncomputable def o142_0 : Params → Obj := fun P => ⟨(.type "tuple"), none, (.seq #[] 0), #[]⟩
noncomputable def o143_0 : Params → Obj := fun P => ⟨.none, none, (.fields #[]), #[]⟩
noncomputable def o144_0 : Params → Obj := fun P => ⟨(.type "tuple"), none, (.seq #[.str "op" 897] 0), #[]⟩
noncomputable def o145_0 : Params → Obj := fun P => ⟨(.type "tuple"), none, (.seq #[] 0), #[]⟩
noncomputable def o146_0 : Params → Obj := fun P => ⟨.none, none, (.func { name := "op_sort", qualname := "op_sort", params := fnArgs (st 40), body := .stmts (fnBody (st 40)), scope := fnScope (st 40), globals := 0, closure := [], defaults := .none, kwdefaults := .none, doc := .none, pyModule := .none, annotations := none, code := .none, closureTuple := .none, builtins := 0 }), #[]⟩
noncomputable def o147_0 : Params → Obj := fun P => ⟨(.type "code"), none, (.fields #[.str "op_sort" 894, .str "op_sort" 895, .str "/claim/cut.py" 896, .int 48 0, .int 1 0, .int 0 0, .int 0 0, .int 3 0, .ref 142, .bool true, .int 181 0, .ref 143, .none, .ref 144, .ref 145, .ref 146, .int 898 0, .int 48 0, .str "/claim/cut.py" 899]), #[]⟩
noncomputable def o148_0 : Params → Obj := fun P => ⟨(.type "function"), none, (.func { name := "op_sort", qualname := "op_sort", params := fnArgs (st 40), body := .stmts (fnBody (st 40)), scope := fnScope (st 40), globals := 3, closure := [], defaults := .none, kwdefaults := .none, doc := .none, pyModule := (.str "framerune.ops" 271), annotations := none, code := (.ref 147), closureTuple := .none, builtins := 0 }), #[]⟩
noncomputable def o149_0 : Params → Obj := fun P => ⟨(.type "tuple"), none, (.seq #[] 0), #[]⟩
noncomputable def o150_0 : Params → Obj := fun P => ⟨.none, none, (.fields #[]), #[]⟩
noncomputable def o151_0 : Params → Obj := fun P => ⟨(.type "tuple"), none, (.seq #[.str "op" 904] 0), #[]⟩
noncomputable def o152_0 : Params → Obj := fun P => ⟨(.type "tuple"), none, (.seq #[] 0), #[]⟩
noncomputable def o153_0 : Params → Obj := fun P => ⟨.none, none, (.func { name := "op_size", qualname := "op_size", params := fnArgs (st 41), body := .stmts (fnBody (st 41)), scope := fnScope (st 41), globals := 0, closure := [], defaults := .none, kwdefaults := .none, doc := .none, pyModule := .none, annotations := none, code := .none, closureTuple := .none, builtins := 0 }), #[]⟩
noncomputable def o154_0 : Params → Obj := fun P => ⟨(.type "code"), none, (.fields #[.str "op_size" 901, .str "op_size" 902, .str "/claim/cut.py" 903, .int 50 0, .int 1 0, .int 0 0, .int 0 0, .int 3 0, .ref 149, .bool true, .int 181 0, .ref 150, .none, .ref 151, .ref 152, .ref 153, .int 905 0, .int 50 0, .str "/claim/cut.py" 906]), #[]⟩
noncomputable def o155_0 : Params → Obj := fun P => ⟨(.type "function"), none, (.func { name := "op_size", qualname := "op_size", params := fnArgs (st 41), body := .stmts (fnBody (st 41)), scope := fnScope (st 41), globals := 3, closure := [], defaults := .none, kwdefaults := .none, doc := .none, pyModule := (.str "framerune.ops" 271), annotations := none, code := (.ref 154), closureTuple := .none, builtins := 0 }), #[]⟩
noncomputable def o156_0 : Params → Obj := fun P => ⟨(.type "tuple"), none, (.seq #[] 0), #[]⟩
noncomputable def o157_0 : Params → Obj := fun P => ⟨.none, none, (.fields #[]), #[]⟩
noncomputable def o158_0 : Params → Obj := fun P => ⟨(.type "tuple"), none, (.seq #[.str "op" 911] 0), #[]⟩
noncomputable def o159_0 : Params → Obj := fun P => ⟨(.type "tuple"), none, (.seq #[] 0), #[]⟩
noncomputable def o160_0 : Params → Obj := fun P => ⟨.none, none, (.func { name := "is_branch", qualname := "is_branch", params := fnArgs (st 42), body := .stmts (fnBody (st 42)), scope := fnScope (st 42), globals := 0, closure := [], defaults := .none, kwdefaults := .none, doc := .none, pyModule := .none, annotations := none, code := .none, closureTuple := .none, builtins := 0 }), #[]⟩
noncomputable def o161_0 : Params → Obj := fun P => ⟨(.type "code"), none, (.fields #[.str "is_branch" 908, .str "is_branch" 909, .str "/claim/cut.py" 910, .int 54 0, .int 1 0, .int 0 0, .int 0 0, .int 3 0, .ref 156, .bool true, .int 181 0, .ref 157, .none, .ref 158, .ref 159, .ref 160, .int 912 0, .int 54 0, .str "/claim/cut.py" 913]), #[]⟩
noncomputable def o162_0 : Params → Obj := fun P => ⟨(.type "function"), none, (.func { name := "is_branch", qualname := "is_branch", params := fnArgs (st 42), body := .stmts (fnBody (st 42)), scope := fnScope (st 42), globals := 3, closure := [], defaults := .none, kwdefaults := .none, doc := .none, pyModule := (.str "framerune.ops" 271), annotations := none, code := (.ref 161), closureTuple := .none, builtins := 0 }), #[]⟩
noncomputable def o163_0 : Params → Obj := fun P => ⟨(.type "tuple"), none, (.seq #[] 0), #[]⟩
noncomputable def o164_0 : Params → Obj := fun P => ⟨.none, none, (.fields #[]), #[]⟩
noncomputable def o165_0 : Params → Obj := fun P => ⟨(.type "tuple"), none, (.seq #[.str "ins" 918] 0), #[]⟩
noncomputable def o166_0 : Params → Obj := fun P => ⟨(.type "tuple"), none, (.seq #[] 0), #[]⟩
noncomputable def o167_0 : Params → Obj := fun P => ⟨.none, none, (.func { name := "targets", qualname := "targets", params := fnArgs (st 43), body := .stmts (fnBody (st 43)), scope := fnScope (st 43), globals := 0, closure := [], defaults := .none, kwdefaults := .none, doc := .none, pyModule := .none, annotations := none, code := .none, closureTuple := .none, builtins := 0 }), #[]⟩
noncomputable def o168_0 : Params → Obj := fun P => ⟨(.type "code"), none, (.fields #[.str "targets" 915, .str "targets" 916, .str "/claim/cut.py" 917, .int 56 0, .int 1 0, .int 0 0, .int 0 0, .int 3 0, .ref 163, .bool true, .int 181 0, .ref 164, .none, .ref 165, .ref 166, .ref 167, .int 919 0, .int 56 0, .str "/claim/cut.py" 920]), #[]⟩
noncomputable def o169_0 : Params → Obj := fun P => ⟨(.type "function"), none, (.func { name := "targets", qualname := "targets", params := fnArgs (st 43), body := .stmts (fnBody (st 43)), scope := fnScope (st 43), globals := 3, closure := [], defaults := .none, kwdefaults := .none, doc := .none, pyModule := (.str "framerune.ops" 271), annotations := none, code := (.ref 168), closureTuple := .none, builtins := 0 }), #[]⟩
noncomputable def o170_0 : Params → Obj := fun P => ⟨(.type "tuple"), none, (.seq #[] 0), #[]⟩
noncomputable def o171_0 : Params → Obj := fun P => ⟨.none, none, (.fields #[]), #[]⟩
noncomputable def o172_0 : Params → Obj := fun P => ⟨(.type "tuple"), none, (.seq #[.str "op" 925] 0), #[]⟩
noncomputable def o173_0 : Params → Obj := fun P => ⟨(.type "tuple"), none, (.seq #[] 0), #[]⟩
noncomputable def o174_0 : Params → Obj := fun P => ⟨.none, none, (.func { name := "prefix_goal", qualname := "prefix_goal", params := fnArgs (st 44), body := .stmts (fnBody (st 44)), scope := fnScope (st 44), globals := 0, closure := [], defaults := .none, kwdefaults := .none, doc := .none, pyModule := .none, annotations := none, code := .none, closureTuple := .none, builtins := 0 }), #[]⟩
noncomputable def o175_0 : Params → Obj := fun P => ⟨(.type "code"), none, (.fields #[.str "prefix_goal" 922, .str "prefix_goal" 923, .str "/claim/cut.py" 924, .int 62 0, .int 1 0, .int 0 0, .int 0 0, .int 3 0, .ref 170, .bool true, .int 181 0, .ref 171, .none, .ref 172, .ref 173, .ref 174, .int 926 0, .int 62 0, .str "/claim/cut.py" 927]), #[]⟩
noncomputable def o176_0 : Params → Obj := fun P => ⟨(.type "function"), none, (.func { name := "prefix_goal", qualname := "prefix_goal", params := fnArgs (st 44), body := .stmts (fnBody (st 44)), scope := fnScope (st 44), globals := 3, closure := [], defaults := .none, kwdefaults := .none, doc := .none, pyModule := (.str "framerune.ops" 271), annotations := none, code := (.ref 175), closureTuple := .none, builtins := 0 }), #[]⟩
noncomputable def o177_0 : Params → Obj := fun P => ⟨(.type "tuple"), none, (.seq #[] 0), #[]⟩
noncomputable def o178_0 : Params → Obj := fun P => ⟨.none, none, (.fields #[]), #[]⟩
noncomputable def o179_0 : Params → Obj := fun P => ⟨(.type "tuple"), none, (.seq #[.str "op" 932] 0), #[]⟩
noncomputable def o180_0 : Params → Obj := fun P => ⟨(.type "tuple"), none, (.seq #[] 0), #[]⟩
noncomputable def o181_0 : Params → Obj := fun P => ⟨.none, none, (.func { name := "jump_octet", qualname := "jump_octet", params := fnArgs (st 45), body := .stmts (fnBody (st 45)), scope := fnScope (st 45), globals := 0, closure := [], defaults := .none, kwdefaults := .none, doc := .none, pyModule := .none, annotations := none, code := .none, closureTuple := .none, builtins := 0 }), #[]⟩
noncomputable def o182_0 : Params → Obj := fun P => ⟨(.type "code"), none, (.fields #[.str "jump_octet" 929, .str "jump_octet" 930, .str "/claim/cut.py" 931, .int 68 0, .int 1 0, .int 0 0, .int 0 0, .int 3 0, .ref 177, .bool true, .int 181 0, .ref 178, .none, .ref 179, .ref 180, .ref 181, .int 933 0, .int 68 0, .str "/claim/cut.py" 934]), #[]⟩
noncomputable def o183_0 : Params → Obj := fun P => ⟨(.type "function"), none, (.func { name := "jump_octet", qualname := "jump_octet", params := fnArgs (st 45), body := .stmts (fnBody (st 45)), scope := fnScope (st 45), globals := 3, closure := [], defaults := .none, kwdefaults := .none, doc := .none, pyModule := (.str "framerune.ops" 271), annotations := none, code := (.ref 182), closureTuple := .none, builtins := 0 }), #[]⟩
noncomputable def o184_0 : Params → Obj := fun P => ⟨(.type "tuple"), none, (.seq #[] 0), #[]⟩
noncomputable def o185_0 : Params → Obj := fun P => ⟨.none, none, (.fields #[]), #[]⟩
noncomputable def o186_0 : Params → Obj := fun P => ⟨(.type "tuple"), none, (.seq #[.str "op" 939, .str "operand" 940, .str "run" 941, .str "place" 942] 0), #[]⟩
noncomputable def o187_0 : Params → Obj := fun P => ⟨(.type "tuple"), none, (.seq #[] 0), #[]⟩
noncomputable def o188_0 : Params → Obj := fun P => ⟨.none, none, (.func { name := "short_form", qualname := "short_form", params := fnArgs (st 46), body := .stmts (fnBody (st 46)), scope := fnScope (st 46), globals := 0, closure := [], defaults := .none, kwdefaults := .none, doc := .none, pyModule := .none, annotations := none, code := .none, closureTuple := .none, builtins := 0 }), #[]⟩
noncomputable def o189_0 : Params → Obj := fun P => ⟨(.type "code"), none, (.fields #[.str "short_form" 936, .str "short_form" 937, .str "/claim/cut.py" 938, .int 72 0, .int 2 0, .int 0 0, .int 0 0, .int 3 0, .ref 184, .bool true, .int 181 0, .ref 185, .none, .ref 186, .ref 187, .ref 188, .int 943 0, .int 72 0, .str "/claim/cut.py" 944]), #[]⟩
noncomputable def o190_0 : Params → Obj := fun P => ⟨(.type "function"), none, (.func { name := "short_form", qualname := "short_form", params := fnArgs (st 46), body := .stmts (fnBody (st 46)), scope := fnScope (st 46), globals := 3, closure := [], defaults := .none, kwdefaults := .none, doc := .none, pyModule := (.str "framerune.ops" 271), annotations := none, code := (.ref 189), closureTuple := .none, builtins := 0 }), #[]⟩
noncomputable def t3_6 : Params → Obj := o3_6
noncomputable def t142_0 : Params → Obj := o142_0
noncomputable def t144_0 : Params → Obj := o144_0
noncomputable def t145_0 : Params → Obj := o145_0
noncomputable def t146_0 : Params → Obj := o146_0
noncomputable def t147_0 : Params → Obj := o147_0
noncomputable def t148_0 : Params → Obj := o148_0
noncomputable def t149_0 : Params → Obj := o149_0
noncomputable def t151_0 : Params → Obj := o151_0
noncomputable def t152_0 : Params → Obj := o152_0
noncomputable def t153_0 : Params → Obj := o153_0
noncomputable def t154_0 : Params → Obj := o154_0
noncomputable def t155_0 : Params → Obj := o155_0
noncomputable def t156_0 : Params → Obj := o156_0
noncomputable def t158_0 : Params → Obj := o158_0
noncomputable def t159_0 : Params → Obj := o159_0
noncomputable def t160_0 : Params → Obj := o160_0
noncomputable def t161_0 : Params → Obj := o161_0
noncomputable def t162_0 : Params → Obj := o162_0
noncomputable def t163_0 : Params → Obj := o163_0
noncomputable def t165_0 : Params → Obj := o165_0
noncomputable def t166_0 : Params → Obj := o166_0
noncomputable def t167_0 : Params → Obj := o167_0
noncomputable def t168_0 : Params → Obj := o168_0
noncomputable def t169_0 : Params → Obj := o169_0
noncomputable def t170_0 : Params → Obj := o170_0
noncomputable def t172_0 : Params → Obj := o172_0
noncomputable def t173_0 : Params → Obj := o173_0
noncomputable def t174_0 : Params → Obj := o174_0
noncomputable def t175_0 : Params → Obj := o175_0
noncomputable def t176_0 : Params → Obj := o176_0
noncomputable def t177_0 : Params → Obj := o177_0
noncomputable def t179_0 : Params → Obj := o179_0
noncomputable def t180_0 : Params → Obj := o180_0
noncomputable def t181_0 : Params → Obj := o181_0
noncomputable def t182_0 : Params → Obj := o182_0
noncomputable def t183_0 : Params → Obj := o183_0
noncomputable def t184_0 : Params → Obj := o184_0
noncomputable def t186_0 : Params → Obj := o186_0
noncomputable def t187_0 : Params → Obj := o187_0
noncomputable def t188_0 : Params → Obj := o188_0
noncomputable def t189_0 : Params → Obj := o189_0
noncomputable def t190_0 : Params → Obj := o190_0
noncomputable def T7 : Params → BT := fun P => (N (t0_0 P) (N (boot_o_1 P) (N (t3_6 P) (N (boot_o_7 P) (N (t15_0 P) (N (t31_0 P) (N (t63_0 P) (N (t127_0 P) E E) E) (N (t95_0 P) (N (t159_0 P) E E) E)) (N (t47_0 P) (N (t79_0 P) (N (o143_0 P) E E) E) (N (t111_0 P) (N (t175_0 P) E E) E))) (N (t23_0 P) (N (t39_0 P) (N (t71_0 P) (N (t135_0 P) E E) E) (N (t103_0 P) (N (t167_0 P) E E) E)) (N (t55_0 P) (N (t87_0 P) (N (t151_0 P) E E) E) (N (t119_0 P) (N (t183_0 P) E E) E)))) (N (t11_0 P) (N (t19_0 P) (N (t35_0 P) (N (t67_0 P) (N (t131_0 P) E E) E) (N (t99_0 P) (N (t163_0 P) E E) E)) (N (t51_0 P) (N (t83_0 P) (N (t147_0 P) E E) E) (N (t115_0 P) (N (t179_0 P) E E) E))) (N (t27_0 P) (N (t43_0 P) (N (t75_0 P) (N (t139_0 P) E E) E) (N (t107_0 P) (N (o171_0 P) E E) E)) (N (t59_0 P) (N (t91_0 P) (N (t155_0 P) E E) E) (N (t123_0 P) (N (t187_0 P) E E) E))))) (N (boot_o_5 P) (N (boot_o_9 P) (N (t17_0 P) (N (t33_0 P) (N (t65_0 P) (N (t129_0 P) E E) E) (N (t97_0 P) (N (t161_0 P) E E) E)) (N (t49_0 P) (N (t81_0 P) (N (t145_0 P) E E) E) (N (t113_0 P) (N (t177_0 P) E E) E))) (N (t25_0 P) (N (t41_0 P) (N (t73_0 P) (N (t137_0 P) E E) E) (N (t105_0 P) (N (t169_0 P) E E) E)) (N (t57_0 P) (N (t89_0 P) (N (t153_0 P) E E) E) (N (t121_0 P) (N (o185_0 P) E E) E)))) (N (t13_0 P) (N (t21_0 P) (N (t37_0 P) (N (t69_0 P) (N (t133_0 P) E E) E) (N (t101_0 P) (N (t165_0 P) E E) E)) (N (t53_0 P) (N (t85_0 P) (N (t149_0 P) E E) E) (N (t117_0 P) (N (t181_0 P) E E) E))) (N (t29_0 P) (N (t45_0 P) (N (t77_0 P) (N (t141_0 P) E E) E) (N (t109_0 P) (N (t173_0 P) E E) E)) (N (t61_0 P) (N (t93_0 P) (N (o157_0 P) E E) E) (N (t125_0 P) (N (t189_0 P) E E) E)))))) (N (t2_0 P) (N (boot_o_4 P) (N (boot_o_8 P) (N (o16_0 P) (N (t32_0 P) (N (t64_0 P) (N (t128_0 P) E E) E) (N (t96_0 P) (N (t160_0 P) E E) E)) (N (t48_0 P) (N (t80_0 P) (N (t144_0 P) E E) E) (N (t112_0 P) (N (t176_0 P) E E) E))) (N (t24_0 P) (N (t40_0 P) (N (t72_0 P) (N (t136_0 P) E E) E) (N (t104_0 P) (N (t168_0 P) E E) E)) (N (t56_0 P) (N (t88_0 P) (N (t152_0 P) E E) E) (N (t120_0 P) (N (t184_0 P) E E) E)))) (N (o12_3 P) (N (t20_0 P) (N (t36_0 P) (N (t68_0 P) (N (t132_0 P) E E) E) (N (t100_0 P) (N (o164_0 P) E E) E)) (N (t52_0 P) (N (t84_0 P) (N (t148_0 P) E E) E) (N (t116_0 P) (N (t180_0 P) E E) E))) (N (t28_0 P) (N (t44_0 P) (N (t76_0 P) (N (t140_0 P) E E) E) (N (t108_0 P) (N (t172_0 P) E E) E)) (N (t60_0 P) (N (t92_0 P) (N (t156_0 P) E E) E) (N (t124_0 P) (N (t188_0 P) E E) E))))) (N (boot_o_6 P) (N (boot_o_10 P) (N (t18_0 P) (N (t34_0 P) (N (t66_0 P) (N (t130_0 P) E E) E) (N (t98_0 P) (N (t162_0 P) E E) E)) (N (t50_0 P) (N (t82_0 P) (N (t146_0 P) E E) E) (N (t114_0 P) (N (o178_0 P) E E) E))) (N (o26_0 P) (N (t42_0 P) (N (t74_0 P) (N (t138_0 P) E E) E) (N (t106_0 P) (N (t170_0 P) E E) E)) (N (t58_0 P) (N (t90_0 P) (N (t154_0 P) E E) E) (N (t122_0 P) (N (t186_0 P) E E) E)))) (N (t14_0 P) (N (t22_0 P) (N (t38_1 P) (N (t70_0 P) (N (t134_0 P) E E) E) (N (t102_0 P) (N (t166_0 P) E E) E)) (N (t54_0 P) (N (t86_0 P) (N (o150_0 P) E E) E) (N (t118_0 P) (N (t182_0 P) E E) E))) (N (o30_0 P) (N (o46_0 P) (N (t78_0 P) (N (t142_0 P) E E) E) (N (t110_0 P) (N (t174_0 P) E E) E)) (N (t62_0 P) (N (t94_0 P) (N (t158_0 P) E E) E) (N (t126_0 P) (N (t190_0 P) E E) E)))))))
noncomputable def sts6 : List Stmt := [st 40, st 41, st 42, st 43, st 44, st 45, st 46, st 47, st 48, st 49, st 50]
noncomputable def Lg6 : World → OsState → Option (Flow × SharedT × Code × Pos) := fun w os => segRunT treeTable PySem.Challenge.pw_xm0288_01 w 11 ann_ 1 243 (⟨T6 w.params, 142, {}, Array.mk [], boot_drawn, 894, os⟩ : SharedT) (piecesOf sts6 env_ cE ⟨47, 0, 47, 10⟩ B_)
noncomputable def Rg6 : World → OsState → Option (Flow × SharedT × Code × Pos) := fun w os => some (.next, (⟨T7 w.params, 191, {}, Array.mk [], boot_drawn, 954, os⟩ : SharedT), cE, ⟨88, 0, 88, 10⟩)
theorem Pg6 : Lg6 = Rg6 := (by kernel_rfl)
noncomputable def en7 : Params → List DictEntry := fun P => [⟨PyData.keyHash P "Tokens", .str "Tokens" 1011, (.ref 228)⟩, ⟨PyData.keyHash P "token_at", .str "token_at" 1022, (.ref 239)⟩, ⟨PyData.keyHash P "ref_key", .str "ref_key" 1030, (.ref 246)⟩, ⟨PyData.keyHash P "fits_sort", .str "fits_sort" 1038, (.ref 253)⟩]
noncomputable def o3_7 : Params → Obj := fun P => ⟨(.type "dict"), none, .dict (([⟨PyData.keyHash P "__name__", .str "__name__" 165, (.str "framerune.ilcode" 946)⟩, ⟨PyData.keyHash P "__doc__", .str "__doc__" 166, .none⟩, ⟨PyData.keyHash P "__package__", .str "__package__" 167, .none⟩, ⟨PyData.keyHash P "__loader__", .str "__loader__" 168, (.builtin "__main__.__loader__#opaque")⟩, ⟨PyData.keyHash P "__spec__", .str "__spec__" 169, .none⟩, ⟨PyData.keyHash P "__annotations__", .str "__annotations__" 170, (.ref 6)⟩, ⟨PyData.keyHash P "__builtins__", .str "__builtins__" 171, (.ref 4)⟩, ⟨PyData.keyHash P "__file__", .str "__file__" 173, (.str "/claim/cut.py" 172)⟩, ⟨PyData.keyHash P "__cached__", .str "__cached__" 174, .none⟩, ⟨PyData.keyHash P "_wall", .str "_wall" 193, (.ref 21)⟩, ⟨PyData.keyHash P "OP_LDC_I4", .str "OP_LDC_I4" 195, (.int 32 194)⟩, ⟨PyData.keyHash P "OP_BR", .str "OP_BR" 197, (.int 56 196)⟩, ⟨PyData.keyHash P "OP_SWITCH", .str "OP_SWITCH" 199, (.int 69 198)⟩, ⟨PyData.keyHash P "OP_CALLVIRT", .str "OP_CALLVIRT" 201, (.int 111 200)⟩, ⟨PyData.keyHash P "OP_LDELEMA", .str "OP_LDELEMA" 203, (.int 143 202)⟩, ⟨PyData.keyHash P "OP_LEAVE", .str "OP_LEAVE" 205, (.int 221 204)⟩] : List DictEntry) ++ en0 P ++ en1 P ++ en2 P ++ en3 P ++ en4 P ++ en5 P ++ en6 P ++ en7 P ++ []).toArray 61, #[]⟩
noncomputable def o12_4 : Params → Obj := fun P => ⟨.none, none, (.fields #[.int 1 0, .int 0 0, .ref 20, .int 19 0, .int 0 0, .ref 27, .int 24 0, .int 0 0, .ref 47, .int 48 0, .int 0 0, .ref 147, .int 50 0, .int 0 0, .ref 154, .int 54 0, .int 0 0, .ref 161, .int 56 0, .int 0 0, .ref 168, .int 62 0, .int 0 0, .ref 175, .int 68 0, .int 0 0, .ref 182, .int 72 0, .int 0 0, .ref 189, .int 89 0, .int 0 0, .ref 196, .int 108 0, .int 0 0, .ref 238, .int 117 0, .int 0 0, .ref 245, .int 125 0, .int 0 0, .ref 252]), #[]⟩
noncomputable def o191_0 : Params → Obj := fun P => ⟨(.type "tuple"), none, (.seq #[] 0), #[]⟩
noncomputable def o192_0 : Params → Obj := fun P => ⟨(.type "builtin_function_or_method"), none, (.fields #[.builtin "type.__prepare__", .type "type"]), #[]⟩
noncomputable def o193_0 : Params → Obj := fun P => ⟨(.type "dict"), none, (.dict #[⟨PyData.keyHash P "__module__", .str "__module__" 961, (.str "framerune.ilcode" 946)⟩, ⟨PyData.keyHash P "__qualname__", .str "__qualname__" 963, (.str "Tokens" 962)⟩, ⟨PyData.keyHash P "__firstlineno__", .str "__firstlineno__" 965, (.int 89 964)⟩, ⟨PyData.keyHash P "__init__", .str "__init__" 972, (.ref 204)⟩, ⟨PyData.keyHash P "put", .str "put" 982, (.ref 211)⟩, ⟨PyData.keyHash P "give", .str "give" 991, (.ref 218)⟩, ⟨PyData.keyHash P "take", .str "take" 1001, (.ref 225)⟩, ⟨PyData.keyHash P "__static_attributes__", .str "__static_attributes__" 1004, (.ref 226)⟩] 8), #[]⟩
noncomputable def o194_0 : Params → Obj := fun P => ⟨(.type "tuple"), none, (.seq #[] 0), #[]⟩
noncomputable def o195_0 : Params → Obj := fun P => ⟨.none, none, (.fields #[.int 91 0, .int 4 0, .ref 203, .int 95 0, .int 4 0, .ref 210, .int 98 0, .int 4 0, .ref 217, .int 101 0, .int 4 0, .ref 224]), #[]⟩
noncomputable def o196_0 : Params → Obj := fun P => ⟨(.type "code"), none, (.fields #[.str "Tokens" 956, .str "Tokens" 957, .str "/claim/cut.py" 958, .int 89 0, .int 0 0, .int 0 0, .int 0 0, .int 0 0, .ref 194, .bool false, .int 181 0, .ref 195, .none, .none, .none, .none, .int 959 0, .int 89 0, .str "/claim/cut.py" 960]), #[]⟩
noncomputable def o197_0 : Params → Obj := fun P => ⟨(.type "frame"), none, .plain, #[(some (.ref 196)), (some (.ref 3)), (some (.ref 193)), none, (some (.str "framerune.ilcode" 946)), none, (some (.ref 0))]⟩
noncomputable def o198_0 : Params → Obj := fun P => ⟨(.type "tuple"), none, (.seq #[] 0), #[]⟩
noncomputable def o199_0 : Params → Obj := fun P => ⟨.none, none, (.fields #[]), #[]⟩
noncomputable def o200_0 : Params → Obj := fun P => ⟨(.type "tuple"), none, (.seq #[.str "self" 969] 0), #[]⟩
noncomputable def o201_0 : Params → Obj := fun P => ⟨(.type "tuple"), none, (.seq #[] 0), #[]⟩
noncomputable def o202_0 : Params → Obj := fun P => ⟨.none, none, (.func { name := "__init__", qualname := "Tokens.__init__", params := fnArgs (nth (clsBody (st 51)) 0), body := .stmts (fnBody (nth (clsBody (st 51)) 0)), scope := fnScope (nth (clsBody (st 51)) 0), globals := 0, closure := [], defaults := .none, kwdefaults := .none, doc := .none, pyModule := .none, annotations := none, code := .none, closureTuple := .none, builtins := 0 }), #[]⟩
noncomputable def o203_0 : Params → Obj := fun P => ⟨(.type "code"), none, (.fields #[.str "__init__" 966, .str "Tokens.__init__" 967, .str "/claim/cut.py" 968, .int 91 0, .int 1 0, .int 0 0, .int 0 0, .int 3 0, .ref 198, .bool true, .int 181 0, .ref 199, .none, .ref 200, .ref 201, .ref 202, .int 970 0, .int 91 0, .str "/claim/cut.py" 971]), #[]⟩
noncomputable def o204_0 : Params → Obj := fun P => ⟨(.type "function"), none, (.func { name := "__init__", qualname := "Tokens.__init__", params := fnArgs (nth (clsBody (st 51)) 0), body := .stmts (fnBody (nth (clsBody (st 51)) 0)), scope := fnScope (nth (clsBody (st 51)) 0), globals := 3, closure := [], defaults := .none, kwdefaults := .none, doc := .none, pyModule := (.str "framerune.ilcode" 946), annotations := none, code := (.ref 203), closureTuple := .none, builtins := 0 }), #[]⟩
noncomputable def o205_0 : Params → Obj := fun P => ⟨(.type "tuple"), none, (.seq #[] 0), #[]⟩
noncomputable def o206_0 : Params → Obj := fun P => ⟨.none, none, (.fields #[]), #[]⟩
noncomputable def o207_0 : Params → Obj := fun P => ⟨(.type "tuple"), none, (.seq #[.str "self" 976, .str "sort" 977, .str "operand" 978, .str "token" 979] 0), #[]⟩
noncomputable def o208_0 : Params → Obj := fun P => ⟨(.type "tuple"), none, (.seq #[] 0), #[]⟩
noncomputable def o209_0 : Params → Obj := fun P => ⟨.none, none, (.func { name := "put", qualname := "Tokens.put", params := fnArgs (nth (clsBody (st 51)) 1), body := .stmts (fnBody (nth (clsBody (st 51)) 1)), scope := fnScope (nth (clsBody (st 51)) 1), globals := 0, closure := [], defaults := .none, kwdefaults := .none, doc := .none, pyModule := .none, annotations := none, code := .none, closureTuple := .none, builtins := 0 }), #[]⟩
noncomputable def o210_0 : Params → Obj := fun P => ⟨(.type "code"), none, (.fields #[.str "put" 973, .str "Tokens.put" 974, .str "/claim/cut.py" 975, .int 95 0, .int 4 0, .int 0 0, .int 0 0, .int 3 0, .ref 205, .bool true, .int 181 0, .ref 206, .none, .ref 207, .ref 208, .ref 209, .int 980 0, .int 95 0, .str "/claim/cut.py" 981]), #[]⟩
noncomputable def o211_0 : Params → Obj := fun P => ⟨(.type "function"), none, (.func { name := "put", qualname := "Tokens.put", params := fnArgs (nth (clsBody (st 51)) 1), body := .stmts (fnBody (nth (clsBody (st 51)) 1)), scope := fnScope (nth (clsBody (st 51)) 1), globals := 3, closure := [], defaults := .none, kwdefaults := .none, doc := .none, pyModule := (.str "framerune.ilcode" 946), annotations := none, code := (.ref 210), closureTuple := .none, builtins := 0 }), #[]⟩
noncomputable def o212_0 : Params → Obj := fun P => ⟨(.type "tuple"), none, (.seq #[] 0), #[]⟩
noncomputable def o213_0 : Params → Obj := fun P => ⟨.none, none, (.fields #[]), #[]⟩
noncomputable def o214_0 : Params → Obj := fun P => ⟨(.type "tuple"), none, (.seq #[.str "self" 986, .str "sort" 987, .str "operand" 988] 0), #[]⟩
noncomputable def o215_0 : Params → Obj := fun P => ⟨(.type "tuple"), none, (.seq #[] 0), #[]⟩
noncomputable def o216_0 : Params → Obj := fun P => ⟨.none, none, (.func { name := "give", qualname := "Tokens.give", params := fnArgs (nth (clsBody (st 51)) 2), body := .stmts (fnBody (nth (clsBody (st 51)) 2)), scope := fnScope (nth (clsBody (st 51)) 2), globals := 0, closure := [], defaults := .none, kwdefaults := .none, doc := .none, pyModule := .none, annotations := none, code := .none, closureTuple := .none, builtins := 0 }), #[]⟩
noncomputable def o217_0 : Params → Obj := fun P => ⟨(.type "code"), none, (.fields #[.str "give" 983, .str "Tokens.give" 984, .str "/claim/cut.py" 985, .int 98 0, .int 3 0, .int 0 0, .int 0 0, .int 3 0, .ref 212, .bool true, .int 181 0, .ref 213, .none, .ref 214, .ref 215, .ref 216, .int 989 0, .int 98 0, .str "/claim/cut.py" 990]), #[]⟩
noncomputable def o218_0 : Params → Obj := fun P => ⟨(.type "function"), none, (.func { name := "give", qualname := "Tokens.give", params := fnArgs (nth (clsBody (st 51)) 2), body := .stmts (fnBody (nth (clsBody (st 51)) 2)), scope := fnScope (nth (clsBody (st 51)) 2), globals := 3, closure := [], defaults := .none, kwdefaults := .none, doc := .none, pyModule := (.str "framerune.ilcode" 946), annotations := none, code := (.ref 217), closureTuple := .none, builtins := 0 }), #[]⟩
noncomputable def o219_0 : Params → Obj := fun P => ⟨(.type "tuple"), none, (.seq #[] 0), #[]⟩
noncomputable def o220_0 : Params → Obj := fun P => ⟨.none, none, (.fields #[]), #[]⟩
noncomputable def o221_0 : Params → Obj := fun P => ⟨(.type "tuple"), none, (.seq #[.str "self" 995, .str "sort" 996, .str "token" 997, .str "operand" 998] 0), #[]⟩
noncomputable def o222_0 : Params → Obj := fun P => ⟨(.type "tuple"), none, (.seq #[] 0), #[]⟩
noncomputable def o223_0 : Params → Obj := fun P => ⟨.none, none, (.func { name := "take", qualname := "Tokens.take", params := fnArgs (nth (clsBody (st 51)) 3), body := .stmts (fnBody (nth (clsBody (st 51)) 3)), scope := fnScope (nth (clsBody (st 51)) 3), globals := 0, closure := [], defaults := .none, kwdefaults := .none, doc := .none, pyModule := .none, annotations := none, code := .none, closureTuple := .none, builtins := 0 }), #[]⟩
noncomputable def o224_0 : Params → Obj := fun P => ⟨(.type "code"), none, (.fields #[.str "take" 992, .str "Tokens.take" 993, .str "/claim/cut.py" 994, .int 101 0, .int 3 0, .int 0 0, .int 0 0, .int 3 0, .ref 219, .bool true, .int 181 0, .ref 220, .none, .ref 221, .ref 222, .ref 223, .int 999 0, .int 101 0, .str "/claim/cut.py" 1000]), #[]⟩
noncomputable def o225_0 : Params → Obj := fun P => ⟨(.type "function"), none, (.func { name := "take", qualname := "Tokens.take", params := fnArgs (nth (clsBody (st 51)) 3), body := .stmts (fnBody (nth (clsBody (st 51)) 3)), scope := fnScope (nth (clsBody (st 51)) 3), globals := 3, closure := [], defaults := .none, kwdefaults := .none, doc := .none, pyModule := (.str "framerune.ilcode" 946), annotations := none, code := (.ref 224), closureTuple := .none, builtins := 0 }), #[]⟩
noncomputable def o226_0 : Params → Obj := fun P => ⟨(.type "tuple"), none, (.seq #[.str "of_ref" 1002, .str "refs" 1003] 0), #[]⟩
noncomputable def o227_0 : Params → Obj := fun P => ⟨(.type "dict"), none, (.dict #[⟨PyData.keyHash P "__module__", .str "__module__" 961, (.str "framerune.ilcode" 946)⟩, ⟨PyData.keyHash P "__firstlineno__", .str "__firstlineno__" 965, (.int 89 964)⟩, ⟨PyData.keyHash P "__init__", .str "__init__" 972, (.ref 204)⟩, ⟨PyData.keyHash P "put", .str "put" 982, (.ref 211)⟩, ⟨PyData.keyHash P "give", .str "give" 991, (.ref 218)⟩, ⟨PyData.keyHash P "take", .str "take" 1001, (.ref 225)⟩, ⟨PyData.keyHash P "__static_attributes__", .str "__static_attributes__" 1004, (.ref 226)⟩, ⟨PyData.keyHash P "__dict__", .str "__dict__" 1006, (.ref 229)⟩, ⟨PyData.keyHash P "__weakref__", .str "__weakref__" 1008, (.ref 230)⟩, ⟨PyData.keyHash P "__doc__", .str "__doc__" 1009, .none⟩] 4), #[]⟩
noncomputable def o228_0 : Params → Obj := fun P => ⟨(.type "type"), none, (.cls { name := "Tokens", bases := [.type "object"], mro := [.ref 228, .type "object"], ns := 227, qualname := "Tokens", hasDict := true, slotNames := [], subclasses := [], abstract := false, collection := none, hasDel := false }), #[none, none, (some (.str "Tokens" 954)), (some (.str "Tokens" 962)), (some (.builtin "object.__new__")), (some (.bool true))]⟩
noncomputable def o229_0 : Params → Obj := fun P => ⟨(.type "getset_descriptor"), none, (.fields #[.str "__dict__" 1005, .ref 228, .builtin "function.__dict__", .builtin "function.__dict__#set"]), #[]⟩
noncomputable def o230_0 : Params → Obj := fun P => ⟨(.type "getset_descriptor"), none, (.fields #[.str "__weakref__" 1007, .ref 228, .builtin "ExceptionGroup.__weakref__", .none]), #[]⟩
noncomputable def o231_0 : Params → Obj := fun P => ⟨(.type "super"), none, (.fields #[.ref 228, .ref 228, .ref 228]), #[]⟩
noncomputable def o232_0 : Params → Obj := fun P => ⟨(.type "builtin_function_or_method"), none, (.fields #[.builtin "object.__init_subclass__", .ref 228]), #[]⟩
noncomputable def o233_0 : Params → Obj := fun P => ⟨(.type "tuple"), none, (.seq #[] 0), #[]⟩
noncomputable def o234_0 : Params → Obj := fun P => ⟨.none, none, (.fields #[]), #[]⟩
noncomputable def o235_0 : Params → Obj := fun P => ⟨(.type "tuple"), none, (.seq #[.str "tokens" 1015, .str "sort" 1016, .str "operand" 1017, .str "i" 1018, .str "token" 1019] 0), #[]⟩
noncomputable def o236_0 : Params → Obj := fun P => ⟨(.type "tuple"), none, (.seq #[] 0), #[]⟩
noncomputable def o237_0 : Params → Obj := fun P => ⟨.none, none, (.func { name := "token_at", qualname := "token_at", params := fnArgs (st 52), body := .stmts (fnBody (st 52)), scope := fnScope (st 52), globals := 0, closure := [], defaults := .none, kwdefaults := .none, doc := .none, pyModule := .none, annotations := none, code := .none, closureTuple := .none, builtins := 0 }), #[]⟩
noncomputable def o238_0 : Params → Obj := fun P => ⟨(.type "code"), none, (.fields #[.str "token_at" 1012, .str "token_at" 1013, .str "/claim/cut.py" 1014, .int 108 0, .int 4 0, .int 0 0, .int 0 0, .int 3 0, .ref 233, .bool true, .int 181 0, .ref 234, .none, .ref 235, .ref 236, .ref 237, .int 1020 0, .int 108 0, .str "/claim/cut.py" 1021]), #[]⟩
noncomputable def o239_0 : Params → Obj := fun P => ⟨(.type "function"), none, (.func { name := "token_at", qualname := "token_at", params := fnArgs (st 52), body := .stmts (fnBody (st 52)), scope := fnScope (st 52), globals := 3, closure := [], defaults := .none, kwdefaults := .none, doc := .none, pyModule := (.str "framerune.ilcode" 946), annotations := none, code := (.ref 238), closureTuple := .none, builtins := 0 }), #[]⟩
noncomputable def o240_0 : Params → Obj := fun P => ⟨(.type "tuple"), none, (.seq #[] 0), #[]⟩
noncomputable def o241_0 : Params → Obj := fun P => ⟨.none, none, (.fields #[]), #[]⟩
noncomputable def o242_0 : Params → Obj := fun P => ⟨(.type "tuple"), none, (.seq #[.str "sort" 1026, .str "operand" 1027] 0), #[]⟩
noncomputable def o243_0 : Params → Obj := fun P => ⟨(.type "tuple"), none, (.seq #[] 0), #[]⟩
noncomputable def o244_0 : Params → Obj := fun P => ⟨.none, none, (.func { name := "ref_key", qualname := "ref_key", params := fnArgs (st 53), body := .stmts (fnBody (st 53)), scope := fnScope (st 53), globals := 0, closure := [], defaults := .none, kwdefaults := .none, doc := .none, pyModule := .none, annotations := none, code := .none, closureTuple := .none, builtins := 0 }), #[]⟩
noncomputable def o245_0 : Params → Obj := fun P => ⟨(.type "code"), none, (.fields #[.str "ref_key" 1023, .str "ref_key" 1024, .str "/claim/cut.py" 1025, .int 117 0, .int 2 0, .int 0 0, .int 0 0, .int 3 0, .ref 240, .bool true, .int 181 0, .ref 241, .none, .ref 242, .ref 243, .ref 244, .int 1028 0, .int 117 0, .str "/claim/cut.py" 1029]), #[]⟩
noncomputable def o246_0 : Params → Obj := fun P => ⟨(.type "function"), none, (.func { name := "ref_key", qualname := "ref_key", params := fnArgs (st 53), body := .stmts (fnBody (st 53)), scope := fnScope (st 53), globals := 3, closure := [], defaults := .none, kwdefaults := .none, doc := .none, pyModule := (.str "framerune.ilcode" 946), annotations := none, code := (.ref 245), closureTuple := .none, builtins := 0 }), #[]⟩
noncomputable def o247_0 : Params → Obj := fun P => ⟨(.type "tuple"), none, (.seq #[] 0), #[]⟩
noncomputable def o248_0 : Params → Obj := fun P => ⟨.none, none, (.fields #[]), #[]⟩
noncomputable def o249_0 : Params → Obj := fun P => ⟨(.type "tuple"), none, (.seq #[.str "sort" 1034, .str "operand" 1035] 0), #[]⟩
noncomputable def o250_0 : Params → Obj := fun P => ⟨(.type "tuple"), none, (.seq #[] 0), #[]⟩
noncomputable def o251_0 : Params → Obj := fun P => ⟨.none, none, (.func { name := "fits_sort", qualname := "fits_sort", params := fnArgs (st 54), body := .stmts (fnBody (st 54)), scope := fnScope (st 54), globals := 0, closure := [], defaults := .none, kwdefaults := .none, doc := .none, pyModule := .none, annotations := none, code := .none, closureTuple := .none, builtins := 0 }), #[]⟩
noncomputable def o252_0 : Params → Obj := fun P => ⟨(.type "code"), none, (.fields #[.str "fits_sort" 1031, .str "fits_sort" 1032, .str "/claim/cut.py" 1033, .int 125 0, .int 2 0, .int 0 0, .int 0 0, .int 3 0, .ref 247, .bool true, .int 181 0, .ref 248, .none, .ref 249, .ref 250, .ref 251, .int 1036 0, .int 125 0, .str "/claim/cut.py" 1037]), #[]⟩
noncomputable def o253_0 : Params → Obj := fun P => ⟨(.type "function"), none, (.func { name := "fits_sort", qualname := "fits_sort", params := fnArgs (st 54), body := .stmts (fnBody (st 54)), scope := fnScope (st 54), globals := 3, closure := [], defaults := .none, kwdefaults := .none, doc := .none, pyModule := (.str "framerune.ilcode" 946), annotations := none, code := (.ref 252), closureTuple := .none, builtins := 0 }), #[]⟩
noncomputable def t3_7 : Params → Obj := o3_7
noncomputable def t191_0 : Params → Obj := o191_0
noncomputable def t192_0 : Params → Obj := o192_0
noncomputable def t193_0 : Params → Obj := o193_0
noncomputable def t194_0 : Params → Obj := o194_0
noncomputable def t196_0 : Params → Obj := o196_0
noncomputable def t197_0 : Params → Obj := o197_0
noncomputable def t198_0 : Params → Obj := o198_0
noncomputable def t200_0 : Params → Obj := o200_0
noncomputable def t201_0 : Params → Obj := o201_0
noncomputable def t202_0 : Params → Obj := o202_0
noncomputable def t203_0 : Params → Obj := o203_0
noncomputable def t204_0 : Params → Obj := o204_0
noncomputable def t205_0 : Params → Obj := o205_0
noncomputable def t207_0 : Params → Obj := o207_0
noncomputable def t208_0 : Params → Obj := o208_0
noncomputable def t209_0 : Params → Obj := o209_0
noncomputable def t210_0 : Params → Obj := o210_0
noncomputable def t211_0 : Params → Obj := o211_0
noncomputable def t212_0 : Params → Obj := o212_0
noncomputable def t214_0 : Params → Obj := o214_0
noncomputable def t215_0 : Params → Obj := o215_0
noncomputable def t216_0 : Params → Obj := o216_0
noncomputable def t217_0 : Params → Obj := o217_0
noncomputable def t218_0 : Params → Obj := o218_0
noncomputable def t219_0 : Params → Obj := o219_0
noncomputable def t221_0 : Params → Obj := o221_0
noncomputable def t222_0 : Params → Obj := o222_0
noncomputable def t223_0 : Params → Obj := o223_0
noncomputable def t224_0 : Params → Obj := o224_0
noncomputable def t225_0 : Params → Obj := o225_0
noncomputable def t226_0 : Params → Obj := o226_0
noncomputable def t227_0 : Params → Obj := o227_0
noncomputable def t228_0 : Params → Obj := o228_0
noncomputable def t229_0 : Params → Obj := o229_0
noncomputable def t230_0 : Params → Obj := o230_0
noncomputable def t231_0 : Params → Obj := o231_0
noncomputable def t232_0 : Params → Obj := o232_0
noncomputable def t233_0 : Params → Obj := o233_0
noncomputable def t235_0 : Params → Obj := o235_0
noncomputable def t236_0 : Params → Obj := o236_0
noncomputable def t237_0 : Params → Obj := o237_0
noncomputable def t238_0 : Params → Obj := o238_0
noncomputable def t239_0 : Params → Obj := o239_0
noncomputable def t240_0 : Params → Obj := o240_0
noncomputable def t242_0 : Params → Obj := o242_0
noncomputable def t243_0 : Params → Obj := o243_0
noncomputable def t244_0 : Params → Obj := o244_0
noncomputable def t245_0 : Params → Obj := o245_0
noncomputable def t246_0 : Params → Obj := o246_0
noncomputable def t247_0 : Params → Obj := o247_0
noncomputable def t249_0 : Params → Obj := o249_0
noncomputable def t250_0 : Params → Obj := o250_0
noncomputable def t251_0 : Params → Obj := o251_0
noncomputable def t252_0 : Params → Obj := o252_0
noncomputable def t253_0 : Params → Obj := o253_0
noncomputable def T8 : Params → BT := fun P => (N (t0_0 P) (N (boot_o_1 P) (N (t3_7 P) (N (boot_o_7 P) (N (t15_0 P) (N (t31_0 P) (N (t63_0 P) (N (t127_0 P) E E) (N (t191_0 P) E E)) (N (t95_0 P) (N (t159_0 P) E E) (N (t223_0 P) E E))) (N (t47_0 P) (N (t79_0 P) (N (o143_0 P) E E) (N (t207_0 P) E E)) (N (t111_0 P) (N (t175_0 P) E E) (N (t239_0 P) E E)))) (N (t23_0 P) (N (t39_0 P) (N (t71_0 P) (N (t135_0 P) E E) (N (o199_0 P) E E)) (N (t103_0 P) (N (t167_0 P) E E) (N (t231_0 P) E E))) (N (t55_0 P) (N (t87_0 P) (N (t151_0 P) E E) (N (t215_0 P) E E)) (N (t119_0 P) (N (t183_0 P) E E) (N (t247_0 P) E E))))) (N (t11_0 P) (N (t19_0 P) (N (t35_0 P) (N (t67_0 P) (N (t131_0 P) E E) (N (o195_0 P) E E)) (N (t99_0 P) (N (t163_0 P) E E) (N (t227_0 P) E E))) (N (t51_0 P) (N (t83_0 P) (N (t147_0 P) E E) (N (t211_0 P) E E)) (N (t115_0 P) (N (t179_0 P) E E) (N (t243_0 P) E E)))) (N (t27_0 P) (N (t43_0 P) (N (t75_0 P) (N (t139_0 P) E E) (N (t203_0 P) E E)) (N (t107_0 P) (N (o171_0 P) E E) (N (t235_0 P) E E))) (N (t59_0 P) (N (t91_0 P) (N (t155_0 P) E E) (N (t219_0 P) E E)) (N (t123_0 P) (N (t187_0 P) E E) (N (t251_0 P) E E)))))) (N (boot_o_5 P) (N (boot_o_9 P) (N (t17_0 P) (N (t33_0 P) (N (t65_0 P) (N (t129_0 P) E E) (N (t193_0 P) E E)) (N (t97_0 P) (N (t161_0 P) E E) (N (t225_0 P) E E))) (N (t49_0 P) (N (t81_0 P) (N (t145_0 P) E E) (N (t209_0 P) E E)) (N (t113_0 P) (N (t177_0 P) E E) (N (o241_0 P) E E)))) (N (t25_0 P) (N (t41_0 P) (N (t73_0 P) (N (t137_0 P) E E) (N (t201_0 P) E E)) (N (t105_0 P) (N (t169_0 P) E E) (N (t233_0 P) E E))) (N (t57_0 P) (N (t89_0 P) (N (t153_0 P) E E) (N (t217_0 P) E E)) (N (t121_0 P) (N (o185_0 P) E E) (N (t249_0 P) E E))))) (N (t13_0 P) (N (t21_0 P) (N (t37_0 P) (N (t69_0 P) (N (t133_0 P) E E) (N (t197_0 P) E E)) (N (t101_0 P) (N (t165_0 P) E E) (N (t229_0 P) E E))) (N (t53_0 P) (N (t85_0 P) (N (t149_0 P) E E) (N (o213_0 P) E E)) (N (t117_0 P) (N (t181_0 P) E E) (N (t245_0 P) E E)))) (N (t29_0 P) (N (t45_0 P) (N (t77_0 P) (N (t141_0 P) E E) (N (t205_0 P) E E)) (N (t109_0 P) (N (t173_0 P) E E) (N (t237_0 P) E E))) (N (t61_0 P) (N (t93_0 P) (N (o157_0 P) E E) (N (t221_0 P) E E)) (N (t125_0 P) (N (t189_0 P) E E) (N (t253_0 P) E E))))))) (N (t2_0 P) (N (boot_o_4 P) (N (boot_o_8 P) (N (o16_0 P) (N (t32_0 P) (N (t64_0 P) (N (t128_0 P) E E) (N (t192_0 P) E E)) (N (t96_0 P) (N (t160_0 P) E E) (N (t224_0 P) E E))) (N (t48_0 P) (N (t80_0 P) (N (t144_0 P) E E) (N (t208_0 P) E E)) (N (t112_0 P) (N (t176_0 P) E E) (N (t240_0 P) E E)))) (N (t24_0 P) (N (t40_0 P) (N (t72_0 P) (N (t136_0 P) E E) (N (t200_0 P) E E)) (N (t104_0 P) (N (t168_0 P) E E) (N (t232_0 P) E E))) (N (t56_0 P) (N (t88_0 P) (N (t152_0 P) E E) (N (t216_0 P) E E)) (N (t120_0 P) (N (t184_0 P) E E) (N (o248_0 P) E E))))) (N (o12_4 P) (N (t20_0 P) (N (t36_0 P) (N (t68_0 P) (N (t132_0 P) E E) (N (t196_0 P) E E)) (N (t100_0 P) (N (o164_0 P) E E) (N (t228_0 P) E E))) (N (t52_0 P) (N (t84_0 P) (N (t148_0 P) E E) (N (t212_0 P) E E)) (N (t116_0 P) (N (t180_0 P) E E) (N (t244_0 P) E E)))) (N (t28_0 P) (N (t44_0 P) (N (t76_0 P) (N (t140_0 P) E E) (N (t204_0 P) E E)) (N (t108_0 P) (N (t172_0 P) E E) (N (t236_0 P) E E))) (N (t60_0 P) (N (t92_0 P) (N (t156_0 P) E E) (N (o220_0 P) E E)) (N (t124_0 P) (N (t188_0 P) E E) (N (t252_0 P) E E)))))) (N (boot_o_6 P) (N (boot_o_10 P) (N (t18_0 P) (N (t34_0 P) (N (t66_0 P) (N (t130_0 P) E E) (N (t194_0 P) E E)) (N (t98_0 P) (N (t162_0 P) E E) (N (t226_0 P) E E))) (N (t50_0 P) (N (t82_0 P) (N (t146_0 P) E E) (N (t210_0 P) E E)) (N (t114_0 P) (N (o178_0 P) E E) (N (t242_0 P) E E)))) (N (o26_0 P) (N (t42_0 P) (N (t74_0 P) (N (t138_0 P) E E) (N (t202_0 P) E E)) (N (t106_0 P) (N (t170_0 P) E E) (N (o234_0 P) E E))) (N (t58_0 P) (N (t90_0 P) (N (t154_0 P) E E) (N (t218_0 P) E E)) (N (t122_0 P) (N (t186_0 P) E E) (N (t250_0 P) E E))))) (N (t14_0 P) (N (t22_0 P) (N (t38_1 P) (N (t70_0 P) (N (t134_0 P) E E) (N (t198_0 P) E E)) (N (t102_0 P) (N (t166_0 P) E E) (N (t230_0 P) E E))) (N (t54_0 P) (N (t86_0 P) (N (o150_0 P) E E) (N (t214_0 P) E E)) (N (t118_0 P) (N (t182_0 P) E E) (N (t246_0 P) E E)))) (N (o30_0 P) (N (o46_0 P) (N (t78_0 P) (N (t142_0 P) E E) (N (o206_0 P) E E)) (N (t110_0 P) (N (t174_0 P) E E) (N (t238_0 P) E E))) (N (t62_0 P) (N (t94_0 P) (N (t158_0 P) E E) (N (t222_0 P) E E)) (N (t126_0 P) (N (t190_0 P) E E) E)))))))
noncomputable def sts7 : List Stmt := [st 51, st 52, st 53, st 54]
noncomputable def Lg7 : World → OsState → Option (Flow × SharedT × Code × Pos) := fun w os => segRunT treeTable PySem.Challenge.pw_xm0288_01 w 11 ann_ 1 417 (⟨T7 w.params, 191, {}, Array.mk [], boot_drawn, 954, os⟩ : SharedT) (piecesOf sts7 env_ cE ⟨88, 0, 88, 10⟩ B_)
noncomputable def Rg7 : World → OsState → Option (Flow × SharedT × Code × Pos) := fun w os => some (.next, (⟨T8 w.params, 254, {}, Array.mk [], boot_drawn, 1039, os⟩ : SharedT), cE, ⟨125, 0, 134, 28⟩)
theorem Pg7 : Lg7 = Rg7 := (by kernel_rfl)
noncomputable def en8 : Params → List DictEntry := fun P => [⟨PyData.keyHash P "check_code", .str "check_code" 1049, (.ref 260)⟩, ⟨PyData.keyHash P "il_check_index", .str "il_check_index" 1057, (.ref 267)⟩, ⟨PyData.keyHash P "check_signed", .str "check_signed" 1067, (.ref 274)⟩, ⟨PyData.keyHash P "form_of", .str "form_of" 1080, (.ref 281)⟩, ⟨PyData.keyHash P "sized_form", .str "sized_form" 1091, (.ref 288)⟩, ⟨PyData.keyHash P "form_size", .str "form_size" 1099, (.ref 295)⟩, ⟨PyData.keyHash P "offsets_of", .str "offsets_of" 1108, (.ref 302)⟩, ⟨PyData.keyHash P "too_far", .str "too_far" 1118, (.ref 309)⟩, ⟨PyData.keyHash P "il_settle", .str "il_settle" 1130, (.ref 316)⟩, ⟨PyData.keyHash P "il_put_number", .str "il_put_number" 1140, (.ref 323)⟩, ⟨PyData.keyHash P "put_head", .str "put_head" 1148, (.ref 330)⟩, ⟨PyData.keyHash P "put_form", .str "put_form" 1160, (.ref 337)⟩]
noncomputable def o3_8 : Params → Obj := fun P => ⟨(.type "dict"), none, .dict (([⟨PyData.keyHash P "__name__", .str "__name__" 165, (.str "framerune.ilcode" 946)⟩, ⟨PyData.keyHash P "__doc__", .str "__doc__" 166, .none⟩, ⟨PyData.keyHash P "__package__", .str "__package__" 167, .none⟩, ⟨PyData.keyHash P "__loader__", .str "__loader__" 168, (.builtin "__main__.__loader__#opaque")⟩, ⟨PyData.keyHash P "__spec__", .str "__spec__" 169, .none⟩, ⟨PyData.keyHash P "__annotations__", .str "__annotations__" 170, (.ref 6)⟩, ⟨PyData.keyHash P "__builtins__", .str "__builtins__" 171, (.ref 4)⟩, ⟨PyData.keyHash P "__file__", .str "__file__" 173, (.str "/claim/cut.py" 172)⟩, ⟨PyData.keyHash P "__cached__", .str "__cached__" 174, .none⟩, ⟨PyData.keyHash P "_wall", .str "_wall" 193, (.ref 21)⟩, ⟨PyData.keyHash P "OP_LDC_I4", .str "OP_LDC_I4" 195, (.int 32 194)⟩, ⟨PyData.keyHash P "OP_BR", .str "OP_BR" 197, (.int 56 196)⟩, ⟨PyData.keyHash P "OP_SWITCH", .str "OP_SWITCH" 199, (.int 69 198)⟩, ⟨PyData.keyHash P "OP_CALLVIRT", .str "OP_CALLVIRT" 201, (.int 111 200)⟩, ⟨PyData.keyHash P "OP_LDELEMA", .str "OP_LDELEMA" 203, (.int 143 202)⟩, ⟨PyData.keyHash P "OP_LEAVE", .str "OP_LEAVE" 205, (.int 221 204)⟩] : List DictEntry) ++ en0 P ++ en1 P ++ en2 P ++ en3 P ++ en4 P ++ en5 P ++ en6 P ++ en7 P ++ en8 P ++ []).toArray 73, #[]⟩
noncomputable def o12_5 : Params → Obj := fun P => ⟨.none, none, (.fields #[.int 1 0, .int 0 0, .ref 20, .int 19 0, .int 0 0, .ref 27, .int 24 0, .int 0 0, .ref 47, .int 48 0, .int 0 0, .ref 147, .int 50 0, .int 0 0, .ref 154, .int 54 0, .int 0 0, .ref 161, .int 56 0, .int 0 0, .ref 168, .int 62 0, .int 0 0, .ref 175, .int 68 0, .int 0 0, .ref 182, .int 72 0, .int 0 0, .ref 189, .int 89 0, .int 0 0, .ref 196, .int 108 0, .int 0 0, .ref 238, .int 117 0, .int 0 0, .ref 245, .int 125 0, .int 0 0, .ref 252, .int 135 0, .int 0 0, .ref 259, .int 146 0, .int 0 0, .ref 266, .int 149 0, .int 0 0, .ref 273, .int 153 0, .int 0 0, .ref 280, .int 181 0, .int 0 0, .ref 287, .int 188 0, .int 0 0, .ref 294, .int 192 0, .int 0 0, .ref 301, .int 197 0, .int 0 0, .ref 308, .int 200 0, .int 0 0, .ref 315, .int 213 0, .int 0 0, .ref 322, .int 216 0, .int 0 0, .ref 329, .int 220 0, .int 0 0, .ref 336]), #[]⟩
noncomputable def o254_0 : Params → Obj := fun P => ⟨(.type "tuple"), none, (.seq #[] 0), #[]⟩
noncomputable def o255_0 : Params → Obj := fun P => ⟨.none, none, (.fields #[]), #[]⟩
noncomputable def o256_0 : Params → Obj := fun P => ⟨(.type "tuple"), none, (.seq #[.str "code" 1042, .str "count" 1043, .str "i" 1044, .str "goal" 1045, .str "wanted" 1046] 0), #[]⟩
noncomputable def o257_0 : Params → Obj := fun P => ⟨(.type "tuple"), none, (.seq #[] 0), #[]⟩
noncomputable def o258_0 : Params → Obj := fun P => ⟨.none, none, (.func { name := "check_code", qualname := "check_code", params := fnArgs (st 55), body := .stmts (fnBody (st 55)), scope := fnScope (st 55), globals := 0, closure := [], defaults := .none, kwdefaults := .none, doc := .none, pyModule := .none, annotations := none, code := .none, closureTuple := .none, builtins := 0 }), #[]⟩
noncomputable def o259_0 : Params → Obj := fun P => ⟨(.type "code"), none, (.fields #[.str "check_code" 1039, .str "check_code" 1040, .str "/claim/cut.py" 1041, .int 135 0, .int 1 0, .int 0 0, .int 0 0, .int 3 0, .ref 254, .bool true, .int 181 0, .ref 255, .none, .ref 256, .ref 257, .ref 258, .int 1047 0, .int 135 0, .str "/claim/cut.py" 1048]), #[]⟩
noncomputable def o260_0 : Params → Obj := fun P => ⟨(.type "function"), none, (.func { name := "check_code", qualname := "check_code", params := fnArgs (st 55), body := .stmts (fnBody (st 55)), scope := fnScope (st 55), globals := 3, closure := [], defaults := .none, kwdefaults := .none, doc := .none, pyModule := (.str "framerune.ilcode" 946), annotations := none, code := (.ref 259), closureTuple := .none, builtins := 0 }), #[]⟩
noncomputable def o261_0 : Params → Obj := fun P => ⟨(.type "tuple"), none, (.seq #[] 0), #[]⟩
noncomputable def o262_0 : Params → Obj := fun P => ⟨.none, none, (.fields #[]), #[]⟩
noncomputable def o263_0 : Params → Obj := fun P => ⟨(.type "tuple"), none, (.seq #[.str "operand" 1053, .str "i" 1054] 0), #[]⟩
noncomputable def o264_0 : Params → Obj := fun P => ⟨(.type "tuple"), none, (.seq #[] 0), #[]⟩
noncomputable def o265_0 : Params → Obj := fun P => ⟨.none, none, (.func { name := "il_check_index", qualname := "il_check_index", params := fnArgs (st 56), body := .stmts (fnBody (st 56)), scope := fnScope (st 56), globals := 0, closure := [], defaults := .none, kwdefaults := .none, doc := .none, pyModule := .none, annotations := none, code := .none, closureTuple := .none, builtins := 0 }), #[]⟩
noncomputable def o266_0 : Params → Obj := fun P => ⟨(.type "code"), none, (.fields #[.str "il_check_index" 1050, .str "il_check_index" 1051, .str "/claim/cut.py" 1052, .int 146 0, .int 2 0, .int 0 0, .int 0 0, .int 3 0, .ref 261, .bool true, .int 181 0, .ref 262, .none, .ref 263, .ref 264, .ref 265, .int 1055 0, .int 146 0, .str "/claim/cut.py" 1056]), #[]⟩
noncomputable def o267_0 : Params → Obj := fun P => ⟨(.type "function"), none, (.func { name := "il_check_index", qualname := "il_check_index", params := fnArgs (st 56), body := .stmts (fnBody (st 56)), scope := fnScope (st 56), globals := 3, closure := [], defaults := .none, kwdefaults := .none, doc := .none, pyModule := (.str "framerune.ilcode" 946), annotations := none, code := (.ref 266), closureTuple := .none, builtins := 0 }), #[]⟩
noncomputable def o268_0 : Params → Obj := fun P => ⟨(.type "tuple"), none, (.seq #[] 0), #[]⟩
noncomputable def o269_0 : Params → Obj := fun P => ⟨.none, none, (.fields #[]), #[]⟩
noncomputable def o270_0 : Params → Obj := fun P => ⟨(.type "tuple"), none, (.seq #[.str "operand" 1061, .str "bits" 1062, .str "i" 1063, .str "half" 1064] 0), #[]⟩
noncomputable def o271_0 : Params → Obj := fun P => ⟨(.type "tuple"), none, (.seq #[] 0), #[]⟩
noncomputable def o272_0 : Params → Obj := fun P => ⟨.none, none, (.func { name := "check_signed", qualname := "check_signed", params := fnArgs (st 57), body := .stmts (fnBody (st 57)), scope := fnScope (st 57), globals := 0, closure := [], defaults := .none, kwdefaults := .none, doc := .none, pyModule := .none, annotations := none, code := .none, closureTuple := .none, builtins := 0 }), #[]⟩
noncomputable def o273_0 : Params → Obj := fun P => ⟨(.type "code"), none, (.fields #[.str "check_signed" 1058, .str "check_signed" 1059, .str "/claim/cut.py" 1060, .int 149 0, .int 3 0, .int 0 0, .int 0 0, .int 3 0, .ref 268, .bool true, .int 181 0, .ref 269, .none, .ref 270, .ref 271, .ref 272, .int 1065 0, .int 149 0, .str "/claim/cut.py" 1066]), #[]⟩
noncomputable def o274_0 : Params → Obj := fun P => ⟨(.type "function"), none, (.func { name := "check_signed", qualname := "check_signed", params := fnArgs (st 57), body := .stmts (fnBody (st 57)), scope := fnScope (st 57), globals := 3, closure := [], defaults := .none, kwdefaults := .none, doc := .none, pyModule := (.str "framerune.ilcode" 946), annotations := none, code := (.ref 273), closureTuple := .none, builtins := 0 }), #[]⟩
noncomputable def o275_0 : Params → Obj := fun P => ⟨(.type "tuple"), none, (.seq #[] 0), #[]⟩
noncomputable def o276_0 : Params → Obj := fun P => ⟨.none, none, (.fields #[]), #[]⟩
noncomputable def o277_0 : Params → Obj := fun P => ⟨(.type "tuple"), none, (.seq #[.str "code" 1071, .str "i" 1072, .str "tokens" 1073, .str "op" 1074, .str "operand" 1075, .str "sort" 1076, .str "octet" 1077] 0), #[]⟩
noncomputable def o278_0 : Params → Obj := fun P => ⟨(.type "tuple"), none, (.seq #[] 0), #[]⟩
noncomputable def o279_0 : Params → Obj := fun P => ⟨.none, none, (.func { name := "form_of", qualname := "form_of", params := fnArgs (st 58), body := .stmts (fnBody (st 58)), scope := fnScope (st 58), globals := 0, closure := [], defaults := .none, kwdefaults := .none, doc := .none, pyModule := .none, annotations := none, code := .none, closureTuple := .none, builtins := 0 }), #[]⟩
noncomputable def o280_0 : Params → Obj := fun P => ⟨(.type "code"), none, (.fields #[.str "form_of" 1068, .str "form_of" 1069, .str "/claim/cut.py" 1070, .int 153 0, .int 3 0, .int 0 0, .int 0 0, .int 3 0, .ref 275, .bool true, .int 181 0, .ref 276, .none, .ref 277, .ref 278, .ref 279, .int 1078 0, .int 153 0, .str "/claim/cut.py" 1079]), #[]⟩
noncomputable def o281_0 : Params → Obj := fun P => ⟨(.type "function"), none, (.func { name := "form_of", qualname := "form_of", params := fnArgs (st 58), body := .stmts (fnBody (st 58)), scope := fnScope (st 58), globals := 3, closure := [], defaults := .none, kwdefaults := .none, doc := .none, pyModule := (.str "framerune.ilcode" 946), annotations := none, code := (.ref 280), closureTuple := .none, builtins := 0 }), #[]⟩
noncomputable def o282_0 : Params → Obj := fun P => ⟨(.type "tuple"), none, (.seq #[] 0), #[]⟩
noncomputable def o283_0 : Params → Obj := fun P => ⟨.none, none, (.fields #[]), #[]⟩
noncomputable def o284_0 : Params → Obj := fun P => ⟨(.type "tuple"), none, (.seq #[.str "op" 1084, .str "operand" 1085, .str "width" 1086, .str "octet" 1087, .str "form" 1088] 0), #[]⟩
noncomputable def o285_0 : Params → Obj := fun P => ⟨(.type "tuple"), none, (.seq #[] 0), #[]⟩
noncomputable def o286_0 : Params → Obj := fun P => ⟨.none, none, (.func { name := "sized_form", qualname := "sized_form", params := fnArgs (st 59), body := .stmts (fnBody (st 59)), scope := fnScope (st 59), globals := 0, closure := [], defaults := .none, kwdefaults := .none, doc := .none, pyModule := .none, annotations := none, code := .none, closureTuple := .none, builtins := 0 }), #[]⟩
noncomputable def o287_0 : Params → Obj := fun P => ⟨(.type "code"), none, (.fields #[.str "sized_form" 1081, .str "sized_form" 1082, .str "/claim/cut.py" 1083, .int 181 0, .int 3 0, .int 0 0, .int 0 0, .int 3 0, .ref 282, .bool true, .int 181 0, .ref 283, .none, .ref 284, .ref 285, .ref 286, .int 1089 0, .int 181 0, .str "/claim/cut.py" 1090]), #[]⟩
noncomputable def o288_0 : Params → Obj := fun P => ⟨(.type "function"), none, (.func { name := "sized_form", qualname := "sized_form", params := fnArgs (st 59), body := .stmts (fnBody (st 59)), scope := fnScope (st 59), globals := 3, closure := [], defaults := .none, kwdefaults := .none, doc := .none, pyModule := (.str "framerune.ilcode" 946), annotations := none, code := (.ref 287), closureTuple := .none, builtins := 0 }), #[]⟩
noncomputable def o289_0 : Params → Obj := fun P => ⟨(.type "tuple"), none, (.seq #[] 0), #[]⟩
noncomputable def o290_0 : Params → Obj := fun P => ⟨.none, none, (.fields #[]), #[]⟩
noncomputable def o291_0 : Params → Obj := fun P => ⟨(.type "tuple"), none, (.seq #[.str "form" 1095, .str "ins" 1096] 0), #[]⟩
noncomputable def o292_0 : Params → Obj := fun P => ⟨(.type "tuple"), none, (.seq #[] 0), #[]⟩
noncomputable def o293_0 : Params → Obj := fun P => ⟨.none, none, (.func { name := "form_size", qualname := "form_size", params := fnArgs (st 60), body := .stmts (fnBody (st 60)), scope := fnScope (st 60), globals := 0, closure := [], defaults := .none, kwdefaults := .none, doc := .none, pyModule := .none, annotations := none, code := .none, closureTuple := .none, builtins := 0 }), #[]⟩
noncomputable def o294_0 : Params → Obj := fun P => ⟨(.type "code"), none, (.fields #[.str "form_size" 1092, .str "form_size" 1093, .str "/claim/cut.py" 1094, .int 188 0, .int 2 0, .int 0 0, .int 0 0, .int 3 0, .ref 289, .bool true, .int 181 0, .ref 290, .none, .ref 291, .ref 292, .ref 293, .int 1097 0, .int 188 0, .str "/claim/cut.py" 1098]), #[]⟩
noncomputable def o295_0 : Params → Obj := fun P => ⟨(.type "function"), none, (.func { name := "form_size", qualname := "form_size", params := fnArgs (st 60), body := .stmts (fnBody (st 60)), scope := fnScope (st 60), globals := 3, closure := [], defaults := .none, kwdefaults := .none, doc := .none, pyModule := (.str "framerune.ilcode" 946), annotations := none, code := (.ref 294), closureTuple := .none, builtins := 0 }), #[]⟩
noncomputable def o296_0 : Params → Obj := fun P => ⟨(.type "tuple"), none, (.seq #[] 0), #[]⟩
noncomputable def o297_0 : Params → Obj := fun P => ⟨.none, none, (.fields #[]), #[]⟩
noncomputable def o298_0 : Params → Obj := fun P => ⟨(.type "tuple"), none, (.seq #[.str "sizes" 1103, .str "out" 1104, .str "size" 1105] 0), #[]⟩
noncomputable def o299_0 : Params → Obj := fun P => ⟨(.type "tuple"), none, (.seq #[] 0), #[]⟩
noncomputable def o300_0 : Params → Obj := fun P => ⟨.none, none, (.func { name := "offsets_of", qualname := "offsets_of", params := fnArgs (st 61), body := .stmts (fnBody (st 61)), scope := fnScope (st 61), globals := 0, closure := [], defaults := .none, kwdefaults := .none, doc := .none, pyModule := .none, annotations := none, code := .none, closureTuple := .none, builtins := 0 }), #[]⟩
noncomputable def o301_0 : Params → Obj := fun P => ⟨(.type "code"), none, (.fields #[.str "offsets_of" 1100, .str "offsets_of" 1101, .str "/claim/cut.py" 1102, .int 192 0, .int 1 0, .int 0 0, .int 0 0, .int 3 0, .ref 296, .bool true, .int 181 0, .ref 297, .none, .ref 298, .ref 299, .ref 300, .int 1106 0, .int 192 0, .str "/claim/cut.py" 1107]), #[]⟩
noncomputable def o302_0 : Params → Obj := fun P => ⟨(.type "function"), none, (.func { name := "offsets_of", qualname := "offsets_of", params := fnArgs (st 61), body := .stmts (fnBody (st 61)), scope := fnScope (st 61), globals := 3, closure := [], defaults := .none, kwdefaults := .none, doc := .none, pyModule := (.str "framerune.ilcode" 946), annotations := none, code := (.ref 301), closureTuple := .none, builtins := 0 }), #[]⟩
noncomputable def o303_0 : Params → Obj := fun P => ⟨(.type "tuple"), none, (.seq #[] 0), #[]⟩
noncomputable def o304_0 : Params → Obj := fun P => ⟨.none, none, (.fields #[]), #[]⟩
noncomputable def o305_0 : Params → Obj := fun P => ⟨(.type "tuple"), none, (.seq #[.str "offsets" 1112, .str "i" 1113, .str "goal" 1114, .str "way" 1115] 0), #[]⟩
noncomputable def o306_0 : Params → Obj := fun P => ⟨(.type "tuple"), none, (.seq #[] 0), #[]⟩
noncomputable def o307_0 : Params → Obj := fun P => ⟨.none, none, (.func { name := "too_far", qualname := "too_far", params := fnArgs (st 62), body := .stmts (fnBody (st 62)), scope := fnScope (st 62), globals := 0, closure := [], defaults := .none, kwdefaults := .none, doc := .none, pyModule := .none, annotations := none, code := .none, closureTuple := .none, builtins := 0 }), #[]⟩
noncomputable def o308_0 : Params → Obj := fun P => ⟨(.type "code"), none, (.fields #[.str "too_far" 1109, .str "too_far" 1110, .str "/claim/cut.py" 1111, .int 197 0, .int 3 0, .int 0 0, .int 0 0, .int 3 0, .ref 303, .bool true, .int 181 0, .ref 304, .none, .ref 305, .ref 306, .ref 307, .int 1116 0, .int 197 0, .str "/claim/cut.py" 1117]), #[]⟩
noncomputable def o309_0 : Params → Obj := fun P => ⟨(.type "function"), none, (.func { name := "too_far", qualname := "too_far", params := fnArgs (st 62), body := .stmts (fnBody (st 62)), scope := fnScope (st 62), globals := 3, closure := [], defaults := .none, kwdefaults := .none, doc := .none, pyModule := (.str "framerune.ilcode" 946), annotations := none, code := (.ref 308), closureTuple := .none, builtins := 0 }), #[]⟩
noncomputable def o310_0 : Params → Obj := fun P => ⟨(.type "tuple"), none, (.seq #[] 0), #[]⟩
noncomputable def o311_0 : Params → Obj := fun P => ⟨.none, none, (.fields #[]), #[]⟩
noncomputable def o312_0 : Params → Obj := fun P => ⟨(.type "tuple"), none, (.seq #[.str "code" 1122, .str "forms" 1123, .str "sizes" 1124, .str "offsets" 1125, .str "turned" 1126, .str "i" 1127] 0), #[]⟩
noncomputable def o313_0 : Params → Obj := fun P => ⟨(.type "tuple"), none, (.seq #[] 0), #[]⟩
noncomputable def o314_0 : Params → Obj := fun P => ⟨.none, none, (.func { name := "il_settle", qualname := "il_settle", params := fnArgs (st 63), body := .stmts (fnBody (st 63)), scope := fnScope (st 63), globals := 0, closure := [], defaults := .none, kwdefaults := .none, doc := .none, pyModule := .none, annotations := none, code := .none, closureTuple := .none, builtins := 0 }), #[]⟩
noncomputable def o315_0 : Params → Obj := fun P => ⟨(.type "code"), none, (.fields #[.str "il_settle" 1119, .str "il_settle" 1120, .str "/claim/cut.py" 1121, .int 200 0, .int 3 0, .int 0 0, .int 0 0, .int 3 0, .ref 310, .bool true, .int 181 0, .ref 311, .none, .ref 312, .ref 313, .ref 314, .int 1128 0, .int 200 0, .str "/claim/cut.py" 1129]), #[]⟩
noncomputable def o316_0 : Params → Obj := fun P => ⟨(.type "function"), none, (.func { name := "il_settle", qualname := "il_settle", params := fnArgs (st 63), body := .stmts (fnBody (st 63)), scope := fnScope (st 63), globals := 3, closure := [], defaults := .none, kwdefaults := .none, doc := .none, pyModule := (.str "framerune.ilcode" 946), annotations := none, code := (.ref 315), closureTuple := .none, builtins := 0 }), #[]⟩
noncomputable def o317_0 : Params → Obj := fun P => ⟨(.type "tuple"), none, (.seq #[] 0), #[]⟩
noncomputable def o318_0 : Params → Obj := fun P => ⟨.none, none, (.fields #[]), #[]⟩
noncomputable def o319_0 : Params → Obj := fun P => ⟨(.type "tuple"), none, (.seq #[.str "out" 1134, .str "n" 1135, .str "width" 1136, .str "place" 1137] 0), #[]⟩
noncomputable def o320_0 : Params → Obj := fun P => ⟨(.type "tuple"), none, (.seq #[] 0), #[]⟩
noncomputable def o321_0 : Params → Obj := fun P => ⟨.none, none, (.func { name := "il_put_number", qualname := "il_put_number", params := fnArgs (st 64), body := .stmts (fnBody (st 64)), scope := fnScope (st 64), globals := 0, closure := [], defaults := .none, kwdefaults := .none, doc := .none, pyModule := .none, annotations := none, code := .none, closureTuple := .none, builtins := 0 }), #[]⟩
noncomputable def o322_0 : Params → Obj := fun P => ⟨(.type "code"), none, (.fields #[.str "il_put_number" 1131, .str "il_put_number" 1132, .str "/claim/cut.py" 1133, .int 213 0, .int 3 0, .int 0 0, .int 0 0, .int 3 0, .ref 317, .bool true, .int 181 0, .ref 318, .none, .ref 319, .ref 320, .ref 321, .int 1138 0, .int 213 0, .str "/claim/cut.py" 1139]), #[]⟩
noncomputable def o323_0 : Params → Obj := fun P => ⟨(.type "function"), none, (.func { name := "il_put_number", qualname := "il_put_number", params := fnArgs (st 64), body := .stmts (fnBody (st 64)), scope := fnScope (st 64), globals := 3, closure := [], defaults := .none, kwdefaults := .none, doc := .none, pyModule := (.str "framerune.ilcode" 946), annotations := none, code := (.ref 322), closureTuple := .none, builtins := 0 }), #[]⟩
noncomputable def o324_0 : Params → Obj := fun P => ⟨(.type "tuple"), none, (.seq #[] 0), #[]⟩
noncomputable def o325_0 : Params → Obj := fun P => ⟨.none, none, (.fields #[]), #[]⟩
noncomputable def o326_0 : Params → Obj := fun P => ⟨(.type "tuple"), none, (.seq #[.str "out" 1144, .str "op" 1145] 0), #[]⟩
noncomputable def o327_0 : Params → Obj := fun P => ⟨(.type "tuple"), none, (.seq #[] 0), #[]⟩
noncomputable def o328_0 : Params → Obj := fun P => ⟨.none, none, (.func { name := "put_head", qualname := "put_head", params := fnArgs (st 65), body := .stmts (fnBody (st 65)), scope := fnScope (st 65), globals := 0, closure := [], defaults := .none, kwdefaults := .none, doc := .none, pyModule := .none, annotations := none, code := .none, closureTuple := .none, builtins := 0 }), #[]⟩
noncomputable def o329_0 : Params → Obj := fun P => ⟨(.type "code"), none, (.fields #[.str "put_head" 1141, .str "put_head" 1142, .str "/claim/cut.py" 1143, .int 216 0, .int 2 0, .int 0 0, .int 0 0, .int 3 0, .ref 324, .bool true, .int 181 0, .ref 325, .none, .ref 326, .ref 327, .ref 328, .int 1146 0, .int 216 0, .str "/claim/cut.py" 1147]), #[]⟩
noncomputable def o330_0 : Params → Obj := fun P => ⟨(.type "function"), none, (.func { name := "put_head", qualname := "put_head", params := fnArgs (st 65), body := .stmts (fnBody (st 65)), scope := fnScope (st 65), globals := 3, closure := [], defaults := .none, kwdefaults := .none, doc := .none, pyModule := (.str "framerune.ilcode" 946), annotations := none, code := (.ref 329), closureTuple := .none, builtins := 0 }), #[]⟩
noncomputable def o331_0 : Params → Obj := fun P => ⟨(.type "tuple"), none, (.seq #[] 0), #[]⟩
noncomputable def o332_0 : Params → Obj := fun P => ⟨.none, none, (.fields #[]), #[]⟩
noncomputable def o333_0 : Params → Obj := fun P => ⟨(.type "tuple"), none, (.seq #[.str "out" 1152, .str "form" 1153, .str "ins" 1154, .str "offsets" 1155, .str "i" 1156, .str "goal" 1157] 0), #[]⟩
noncomputable def o334_0 : Params → Obj := fun P => ⟨(.type "tuple"), none, (.seq #[] 0), #[]⟩
noncomputable def o335_0 : Params → Obj := fun P => ⟨.none, none, (.func { name := "put_form", qualname := "put_form", params := fnArgs (st 66), body := .stmts (fnBody (st 66)), scope := fnScope (st 66), globals := 0, closure := [], defaults := .none, kwdefaults := .none, doc := .none, pyModule := .none, annotations := none, code := .none, closureTuple := .none, builtins := 0 }), #[]⟩
noncomputable def o336_0 : Params → Obj := fun P => ⟨(.type "code"), none, (.fields #[.str "put_form" 1149, .str "put_form" 1150, .str "/claim/cut.py" 1151, .int 220 0, .int 5 0, .int 0 0, .int 0 0, .int 3 0, .ref 331, .bool true, .int 181 0, .ref 332, .none, .ref 333, .ref 334, .ref 335, .int 1158 0, .int 220 0, .str "/claim/cut.py" 1159]), #[]⟩
noncomputable def o337_0 : Params → Obj := fun P => ⟨(.type "function"), none, (.func { name := "put_form", qualname := "put_form", params := fnArgs (st 66), body := .stmts (fnBody (st 66)), scope := fnScope (st 66), globals := 3, closure := [], defaults := .none, kwdefaults := .none, doc := .none, pyModule := (.str "framerune.ilcode" 946), annotations := none, code := (.ref 336), closureTuple := .none, builtins := 0 }), #[]⟩
noncomputable def t3_8 : Params → Obj := o3_8
noncomputable def t254_0 : Params → Obj := o254_0
noncomputable def t256_0 : Params → Obj := o256_0
noncomputable def t257_0 : Params → Obj := o257_0
noncomputable def t258_0 : Params → Obj := o258_0
noncomputable def t259_0 : Params → Obj := o259_0
noncomputable def t260_0 : Params → Obj := o260_0
noncomputable def t261_0 : Params → Obj := o261_0
noncomputable def t263_0 : Params → Obj := o263_0
noncomputable def t264_0 : Params → Obj := o264_0
noncomputable def t265_0 : Params → Obj := o265_0
noncomputable def t266_0 : Params → Obj := o266_0
noncomputable def t267_0 : Params → Obj := o267_0
noncomputable def t268_0 : Params → Obj := o268_0
noncomputable def t270_0 : Params → Obj := o270_0
noncomputable def t271_0 : Params → Obj := o271_0
noncomputable def t272_0 : Params → Obj := o272_0
noncomputable def t273_0 : Params → Obj := o273_0
noncomputable def t274_0 : Params → Obj := o274_0
noncomputable def t275_0 : Params → Obj := o275_0
noncomputable def t277_0 : Params → Obj := o277_0
noncomputable def t278_0 : Params → Obj := o278_0
noncomputable def t279_0 : Params → Obj := o279_0
noncomputable def t280_0 : Params → Obj := o280_0
noncomputable def t281_0 : Params → Obj := o281_0
noncomputable def t282_0 : Params → Obj := o282_0
noncomputable def t284_0 : Params → Obj := o284_0
noncomputable def t285_0 : Params → Obj := o285_0
noncomputable def t286_0 : Params → Obj := o286_0
noncomputable def t287_0 : Params → Obj := o287_0
noncomputable def t288_0 : Params → Obj := o288_0
noncomputable def t289_0 : Params → Obj := o289_0
noncomputable def t291_0 : Params → Obj := o291_0
noncomputable def t292_0 : Params → Obj := o292_0
noncomputable def t293_0 : Params → Obj := o293_0
noncomputable def t294_0 : Params → Obj := o294_0
noncomputable def t295_0 : Params → Obj := o295_0
noncomputable def t296_0 : Params → Obj := o296_0
noncomputable def t298_0 : Params → Obj := o298_0
noncomputable def t299_0 : Params → Obj := o299_0
noncomputable def t300_0 : Params → Obj := o300_0
noncomputable def t301_0 : Params → Obj := o301_0
noncomputable def t302_0 : Params → Obj := o302_0
noncomputable def t303_0 : Params → Obj := o303_0
noncomputable def t305_0 : Params → Obj := o305_0
noncomputable def t306_0 : Params → Obj := o306_0
noncomputable def t307_0 : Params → Obj := o307_0
noncomputable def t308_0 : Params → Obj := o308_0
noncomputable def t309_0 : Params → Obj := o309_0
noncomputable def t310_0 : Params → Obj := o310_0
noncomputable def t312_0 : Params → Obj := o312_0
noncomputable def t313_0 : Params → Obj := o313_0
noncomputable def t314_0 : Params → Obj := o314_0
noncomputable def t315_0 : Params → Obj := o315_0
noncomputable def t316_0 : Params → Obj := o316_0
noncomputable def t317_0 : Params → Obj := o317_0
noncomputable def t319_0 : Params → Obj := o319_0
noncomputable def t320_0 : Params → Obj := o320_0
noncomputable def t321_0 : Params → Obj := o321_0
noncomputable def t322_0 : Params → Obj := o322_0
noncomputable def t323_0 : Params → Obj := o323_0
noncomputable def t324_0 : Params → Obj := o324_0
noncomputable def t326_0 : Params → Obj := o326_0
noncomputable def t327_0 : Params → Obj := o327_0
noncomputable def t328_0 : Params → Obj := o328_0
noncomputable def t329_0 : Params → Obj := o329_0
noncomputable def t330_0 : Params → Obj := o330_0
noncomputable def t331_0 : Params → Obj := o331_0
noncomputable def t333_0 : Params → Obj := o333_0
noncomputable def t334_0 : Params → Obj := o334_0
noncomputable def t335_0 : Params → Obj := o335_0
noncomputable def t336_0 : Params → Obj := o336_0
noncomputable def t337_0 : Params → Obj := o337_0
noncomputable def T9 : Params → BT := fun P => (N (t0_0 P) (N (boot_o_1 P) (N (t3_8 P) (N (boot_o_7 P) (N (t15_0 P) (N (t31_0 P) (N (t63_0 P) (N (t127_0 P) (N (o255_0 P) E E) E) (N (t191_0 P) (N (t319_0 P) E E) E)) (N (t95_0 P) (N (t159_0 P) (N (t287_0 P) E E) E) (N (t223_0 P) E E))) (N (t47_0 P) (N (t79_0 P) (N (o143_0 P) (N (t271_0 P) E E) E) (N (t207_0 P) (N (t335_0 P) E E) E)) (N (t111_0 P) (N (t175_0 P) (N (t303_0 P) E E) E) (N (t239_0 P) E E)))) (N (t23_0 P) (N (t39_0 P) (N (t71_0 P) (N (t135_0 P) (N (t263_0 P) E E) E) (N (o199_0 P) (N (t327_0 P) E E) E)) (N (t103_0 P) (N (t167_0 P) (N (t295_0 P) E E) E) (N (t231_0 P) E E))) (N (t55_0 P) (N (t87_0 P) (N (t151_0 P) (N (t279_0 P) E E) E) (N (t215_0 P) E E)) (N (t119_0 P) (N (t183_0 P) (N (o311_0 P) E E) E) (N (t247_0 P) E E))))) (N (t11_0 P) (N (t19_0 P) (N (t35_0 P) (N (t67_0 P) (N (t131_0 P) (N (t259_0 P) E E) E) (N (o195_0 P) (N (t323_0 P) E E) E)) (N (t99_0 P) (N (t163_0 P) (N (t291_0 P) E E) E) (N (t227_0 P) E E))) (N (t51_0 P) (N (t83_0 P) (N (t147_0 P) (N (t275_0 P) E E) E) (N (t211_0 P) E E)) (N (t115_0 P) (N (t179_0 P) (N (t307_0 P) E E) E) (N (t243_0 P) E E)))) (N (t27_0 P) (N (t43_0 P) (N (t75_0 P) (N (t139_0 P) (N (t267_0 P) E E) E) (N (t203_0 P) (N (t331_0 P) E E) E)) (N (t107_0 P) (N (o171_0 P) (N (t299_0 P) E E) E) (N (t235_0 P) E E))) (N (t59_0 P) (N (t91_0 P) (N (t155_0 P) (N (o283_0 P) E E) E) (N (t219_0 P) E E)) (N (t123_0 P) (N (t187_0 P) (N (t315_0 P) E E) E) (N (t251_0 P) E E)))))) (N (boot_o_5 P) (N (boot_o_9 P) (N (t17_0 P) (N (t33_0 P) (N (t65_0 P) (N (t129_0 P) (N (t257_0 P) E E) E) (N (t193_0 P) (N (t321_0 P) E E) E)) (N (t97_0 P) (N (t161_0 P) (N (t289_0 P) E E) E) (N (t225_0 P) E E))) (N (t49_0 P) (N (t81_0 P) (N (t145_0 P) (N (t273_0 P) E E) E) (N (t209_0 P) (N (t337_0 P) E E) E)) (N (t113_0 P) (N (t177_0 P) (N (t305_0 P) E E) E) (N (o241_0 P) E E)))) (N (t25_0 P) (N (t41_0 P) (N (t73_0 P) (N (t137_0 P) (N (t265_0 P) E E) E) (N (t201_0 P) (N (t329_0 P) E E) E)) (N (t105_0 P) (N (t169_0 P) (N (o297_0 P) E E) E) (N (t233_0 P) E E))) (N (t57_0 P) (N (t89_0 P) (N (t153_0 P) (N (t281_0 P) E E) E) (N (t217_0 P) E E)) (N (t121_0 P) (N (o185_0 P) (N (t313_0 P) E E) E) (N (t249_0 P) E E))))) (N (t13_0 P) (N (t21_0 P) (N (t37_0 P) (N (t69_0 P) (N (t133_0 P) (N (t261_0 P) E E) E) (N (t197_0 P) (N (o325_0 P) E E) E)) (N (t101_0 P) (N (t165_0 P) (N (t293_0 P) E E) E) (N (t229_0 P) E E))) (N (t53_0 P) (N (t85_0 P) (N (t149_0 P) (N (t277_0 P) E E) E) (N (o213_0 P) E E)) (N (t117_0 P) (N (t181_0 P) (N (t309_0 P) E E) E) (N (t245_0 P) E E)))) (N (t29_0 P) (N (t45_0 P) (N (t77_0 P) (N (t141_0 P) (N (o269_0 P) E E) E) (N (t205_0 P) (N (t333_0 P) E E) E)) (N (t109_0 P) (N (t173_0 P) (N (t301_0 P) E E) E) (N (t237_0 P) E E))) (N (t61_0 P) (N (t93_0 P) (N (o157_0 P) (N (t285_0 P) E E) E) (N (t221_0 P) E E)) (N (t125_0 P) (N (t189_0 P) (N (t317_0 P) E E) E) (N (t253_0 P) E E))))))) (N (t2_0 P) (N (boot_o_4 P) (N (boot_o_8 P) (N (o16_0 P) (N (t32_0 P) (N (t64_0 P) (N (t128_0 P) (N (t256_0 P) E E) E) (N (t192_0 P) (N (t320_0 P) E E) E)) (N (t96_0 P) (N (t160_0 P) (N (t288_0 P) E E) E) (N (t224_0 P) E E))) (N (t48_0 P) (N (t80_0 P) (N (t144_0 P) (N (t272_0 P) E E) E) (N (t208_0 P) (N (t336_0 P) E E) E)) (N (t112_0 P) (N (t176_0 P) (N (o304_0 P) E E) E) (N (t240_0 P) E E)))) (N (t24_0 P) (N (t40_0 P) (N (t72_0 P) (N (t136_0 P) (N (t264_0 P) E E) E) (N (t200_0 P) (N (t328_0 P) E E) E)) (N (t104_0 P) (N (t168_0 P) (N (t296_0 P) E E) E) (N (t232_0 P) E E))) (N (t56_0 P) (N (t88_0 P) (N (t152_0 P) (N (t280_0 P) E E) E) (N (t216_0 P) E E)) (N (t120_0 P) (N (t184_0 P) (N (t312_0 P) E E) E) (N (o248_0 P) E E))))) (N (o12_5 P) (N (t20_0 P) (N (t36_0 P) (N (t68_0 P) (N (t132_0 P) (N (t260_0 P) E E) E) (N (t196_0 P) (N (t324_0 P) E E) E)) (N (t100_0 P) (N (o164_0 P) (N (t292_0 P) E E) E) (N (t228_0 P) E E))) (N (t52_0 P) (N (t84_0 P) (N (t148_0 P) (N (o276_0 P) E E) E) (N (t212_0 P) E E)) (N (t116_0 P) (N (t180_0 P) (N (t308_0 P) E E) E) (N (t244_0 P) E E)))) (N (t28_0 P) (N (t44_0 P) (N (t76_0 P) (N (t140_0 P) (N (t268_0 P) E E) E) (N (t204_0 P) (N (o332_0 P) E E) E)) (N (t108_0 P) (N (t172_0 P) (N (t300_0 P) E E) E) (N (t236_0 P) E E))) (N (t60_0 P) (N (t92_0 P) (N (t156_0 P) (N (t284_0 P) E E) E) (N (o220_0 P) E E)) (N (t124_0 P) (N (t188_0 P) (N (t316_0 P) E E) E) (N (t252_0 P) E E)))))) (N (boot_o_6 P) (N (boot_o_10 P) (N (t18_0 P) (N (t34_0 P) (N (t66_0 P) (N (t130_0 P) (N (t258_0 P) E E) E) (N (t194_0 P) (N (t322_0 P) E E) E)) (N (t98_0 P) (N (t162_0 P) (N (o290_0 P) E E) E) (N (t226_0 P) E E))) (N (t50_0 P) (N (t82_0 P) (N (t146_0 P) (N (t274_0 P) E E) E) (N (t210_0 P) E E)) (N (t114_0 P) (N (o178_0 P) (N (t306_0 P) E E) E) (N (t242_0 P) E E)))) (N (o26_0 P) (N (t42_0 P) (N (t74_0 P) (N (t138_0 P) (N (t266_0 P) E E) E) (N (t202_0 P) (N (t330_0 P) E E) E)) (N (t106_0 P) (N (t170_0 P) (N (t298_0 P) E E) E) (N (o234_0 P) E E))) (N (t58_0 P) (N (t90_0 P) (N (t154_0 P) (N (t282_0 P) E E) E) (N (t218_0 P) E E)) (N (t122_0 P) (N (t186_0 P) (N (t314_0 P) E E) E) (N (t250_0 P) E E))))) (N (t14_0 P) (N (t22_0 P) (N (t38_1 P) (N (t70_0 P) (N (t134_0 P) (N (o262_0 P) E E) E) (N (t198_0 P) (N (t326_0 P) E E) E)) (N (t102_0 P) (N (t166_0 P) (N (t294_0 P) E E) E) (N (t230_0 P) E E))) (N (t54_0 P) (N (t86_0 P) (N (o150_0 P) (N (t278_0 P) E E) E) (N (t214_0 P) E E)) (N (t118_0 P) (N (t182_0 P) (N (t310_0 P) E E) E) (N (t246_0 P) E E)))) (N (o30_0 P) (N (o46_0 P) (N (t78_0 P) (N (t142_0 P) (N (t270_0 P) E E) E) (N (o206_0 P) (N (t334_0 P) E E) E)) (N (t110_0 P) (N (t174_0 P) (N (t302_0 P) E E) E) (N (t238_0 P) E E))) (N (t62_0 P) (N (t94_0 P) (N (t158_0 P) (N (t286_0 P) E E) E) (N (t222_0 P) E E)) (N (t126_0 P) (N (t190_0 P) (N (o318_0 P) E E) E) (N (t254_0 P) E E))))))))
noncomputable def sts8 : List Stmt := [st 55, st 56, st 57, st 58, st 59, st 60, st 61, st 62, st 63, st 64, st 65, st 66]
noncomputable def Lg8 : World → OsState → Option (Flow × SharedT × Code × Pos) := fun w os => segRunT treeTable PySem.Challenge.pw_xm0288_01 w 11 ann_ 1 387 (⟨T8 w.params, 254, {}, Array.mk [], boot_drawn, 1039, os⟩ : SharedT) (piecesOf sts8 env_ cE ⟨125, 0, 134, 28⟩ B_)
noncomputable def Rg8 : World → OsState → Option (Flow × SharedT × Code × Pos) := fun w os => some (.next, (⟨T9 w.params, 338, {}, Array.mk [], boot_drawn, 1161, os⟩ : SharedT), cE, ⟨220, 0, 229, 44⟩)
theorem Pg8 : Lg8 = Rg8 := (by kernel_rfl)
noncomputable def en9 : Params → List DictEntry := fun P => [⟨PyData.keyHash P "encode", .str "encode" 1174, (.ref 344)⟩, ⟨PyData.keyHash P "CodeIn", .str "CodeIn" 1223, (.ref 375)⟩, ⟨PyData.keyHash P "il_read_ins", .str "il_read_ins" 1234, (.ref 386)⟩, ⟨PyData.keyHash P "il_read_short", .str "il_read_short" 1243, (.ref 393)⟩]
noncomputable def o3_9 : Params → Obj := fun P => ⟨(.type "dict"), none, .dict (([⟨PyData.keyHash P "__name__", .str "__name__" 165, (.str "framerune.ilcode" 946)⟩, ⟨PyData.keyHash P "__doc__", .str "__doc__" 166, .none⟩, ⟨PyData.keyHash P "__package__", .str "__package__" 167, .none⟩, ⟨PyData.keyHash P "__loader__", .str "__loader__" 168, (.builtin "__main__.__loader__#opaque")⟩, ⟨PyData.keyHash P "__spec__", .str "__spec__" 169, .none⟩, ⟨PyData.keyHash P "__annotations__", .str "__annotations__" 170, (.ref 6)⟩, ⟨PyData.keyHash P "__builtins__", .str "__builtins__" 171, (.ref 4)⟩, ⟨PyData.keyHash P "__file__", .str "__file__" 173, (.str "/claim/cut.py" 172)⟩, ⟨PyData.keyHash P "__cached__", .str "__cached__" 174, .none⟩, ⟨PyData.keyHash P "_wall", .str "_wall" 193, (.ref 21)⟩, ⟨PyData.keyHash P "OP_LDC_I4", .str "OP_LDC_I4" 195, (.int 32 194)⟩, ⟨PyData.keyHash P "OP_BR", .str "OP_BR" 197, (.int 56 196)⟩, ⟨PyData.keyHash P "OP_SWITCH", .str "OP_SWITCH" 199, (.int 69 198)⟩, ⟨PyData.keyHash P "OP_CALLVIRT", .str "OP_CALLVIRT" 201, (.int 111 200)⟩, ⟨PyData.keyHash P "OP_LDELEMA", .str "OP_LDELEMA" 203, (.int 143 202)⟩, ⟨PyData.keyHash P "OP_LEAVE", .str "OP_LEAVE" 205, (.int 221 204)⟩] : List DictEntry) ++ en0 P ++ en1 P ++ en2 P ++ en3 P ++ en4 P ++ en5 P ++ en6 P ++ en7 P ++ en8 P ++ en9 P ++ []).toArray 77, #[]⟩
noncomputable def o12_6 : Params → Obj := fun P => ⟨.none, none, (.fields #[.int 1 0, .int 0 0, .ref 20, .int 19 0, .int 0 0, .ref 27, .int 24 0, .int 0 0, .ref 47, .int 48 0, .int 0 0, .ref 147, .int 50 0, .int 0 0, .ref 154, .int 54 0, .int 0 0, .ref 161, .int 56 0, .int 0 0, .ref 168, .int 62 0, .int 0 0, .ref 175, .int 68 0, .int 0 0, .ref 182, .int 72 0, .int 0 0, .ref 189, .int 89 0, .int 0 0, .ref 196, .int 108 0, .int 0 0, .ref 238, .int 117 0, .int 0 0, .ref 245, .int 125 0, .int 0 0, .ref 252, .int 135 0, .int 0 0, .ref 259, .int 146 0, .int 0 0, .ref 266, .int 149 0, .int 0 0, .ref 273, .int 153 0, .int 0 0, .ref 280, .int 181 0, .int 0 0, .ref 287, .int 188 0, .int 0 0, .ref 294, .int 192 0, .int 0 0, .ref 301, .int 197 0, .int 0 0, .ref 308, .int 200 0, .int 0 0, .ref 315, .int 213 0, .int 0 0, .ref 322, .int 216 0, .int 0 0, .ref 329, .int 220 0, .int 0 0, .ref 336, .int 230 0, .int 0 0, .ref 343, .int 243 0, .int 0 0, .ref 350, .int 263 0, .int 0 0, .ref 385, .int 276 0, .int 0 0, .ref 392]), #[]⟩
noncomputable def o338_0 : Params → Obj := fun P => ⟨(.type "tuple"), none, (.seq #[] 0), #[]⟩
noncomputable def o339_0 : Params → Obj := fun P => ⟨.none, none, (.fields #[]), #[]⟩
noncomputable def o340_0 : Params → Obj := fun P => ⟨(.type "tuple"), none, (.seq #[.str "code" 1164, .str "tokens" 1165, .str "forms" 1166, .str "sizes" 1167, .str "i" 1168, .str "form" 1169, .str "offsets" 1170, .str "out" 1171] 0), #[]⟩
noncomputable def o341_0 : Params → Obj := fun P => ⟨(.type "tuple"), none, (.seq #[] 0), #[]⟩
noncomputable def o342_0 : Params → Obj := fun P => ⟨.none, none, (.func { name := "encode", qualname := "encode", params := fnArgs (st 67), body := .stmts (fnBody (st 67)), scope := fnScope (st 67), globals := 0, closure := [], defaults := .none, kwdefaults := .none, doc := .none, pyModule := .none, annotations := none, code := .none, closureTuple := .none, builtins := 0 }), #[]⟩
noncomputable def o343_0 : Params → Obj := fun P => ⟨(.type "code"), none, (.fields #[.str "encode" 1161, .str "encode" 1162, .str "/claim/cut.py" 1163, .int 230 0, .int 2 0, .int 0 0, .int 0 0, .int 3 0, .ref 338, .bool true, .int 181 0, .ref 339, .none, .ref 340, .ref 341, .ref 342, .int 1172 0, .int 230 0, .str "/claim/cut.py" 1173]), #[]⟩
noncomputable def o344_0 : Params → Obj := fun P => ⟨(.type "function"), none, (.func { name := "encode", qualname := "encode", params := fnArgs (st 67), body := .stmts (fnBody (st 67)), scope := fnScope (st 67), globals := 3, closure := [], defaults := .none, kwdefaults := .none, doc := .none, pyModule := (.str "framerune.ilcode" 946), annotations := none, code := (.ref 343), closureTuple := .none, builtins := 0 }), #[]⟩
noncomputable def o345_0 : Params → Obj := fun P => ⟨(.type "tuple"), none, (.seq #[] 0), #[]⟩
noncomputable def o346_0 : Params → Obj := fun P => ⟨(.type "builtin_function_or_method"), none, (.fields #[.builtin "type.__prepare__", .type "type"]), #[]⟩
noncomputable def o347_0 : Params → Obj := fun P => ⟨(.type "dict"), none, (.dict #[⟨PyData.keyHash P "__module__", .str "__module__" 1182, (.str "framerune.ilcode" 946)⟩, ⟨PyData.keyHash P "__qualname__", .str "__qualname__" 1184, (.str "CodeIn" 1183)⟩, ⟨PyData.keyHash P "__firstlineno__", .str "__firstlineno__" 1186, (.int 243 1185)⟩, ⟨PyData.keyHash P "__init__", .str "__init__" 1194, (.ref 358)⟩, ⟨PyData.keyHash P "number", .str "number" 1204, (.ref 365)⟩, ⟨PyData.keyHash P "signed", .str "signed" 1213, (.ref 372)⟩, ⟨PyData.keyHash P "__static_attributes__", .str "__static_attributes__" 1216, (.ref 373)⟩] 7), #[]⟩
noncomputable def o348_0 : Params → Obj := fun P => ⟨(.type "tuple"), none, (.seq #[] 0), #[]⟩
noncomputable def o349_0 : Params → Obj := fun P => ⟨.none, none, (.fields #[.int 245 0, .int 4 0, .ref 357, .int 249 0, .int 4 0, .ref 364, .int 258 0, .int 4 0, .ref 371]), #[]⟩
noncomputable def o350_0 : Params → Obj := fun P => ⟨(.type "code"), none, (.fields #[.str "CodeIn" 1177, .str "CodeIn" 1178, .str "/claim/cut.py" 1179, .int 243 0, .int 0 0, .int 0 0, .int 0 0, .int 0 0, .ref 348, .bool false, .int 181 0, .ref 349, .none, .none, .none, .none, .int 1180 0, .int 243 0, .str "/claim/cut.py" 1181]), #[]⟩
noncomputable def o351_0 : Params → Obj := fun P => ⟨(.type "frame"), none, .plain, #[(some (.ref 350)), (some (.ref 3)), (some (.ref 347)), none, (some (.str "framerune.ilcode" 946)), none, (some (.ref 0))]⟩
noncomputable def o352_0 : Params → Obj := fun P => ⟨(.type "tuple"), none, (.seq #[] 0), #[]⟩
noncomputable def o353_0 : Params → Obj := fun P => ⟨.none, none, (.fields #[]), #[]⟩
noncomputable def o354_0 : Params → Obj := fun P => ⟨(.type "tuple"), none, (.seq #[.str "self" 1190, .str "data" 1191] 0), #[]⟩
noncomputable def o355_0 : Params → Obj := fun P => ⟨(.type "tuple"), none, (.seq #[] 0), #[]⟩
noncomputable def o356_0 : Params → Obj := fun P => ⟨.none, none, (.func { name := "__init__", qualname := "CodeIn.__init__", params := fnArgs (nth (clsBody (st 68)) 0), body := .stmts (fnBody (nth (clsBody (st 68)) 0)), scope := fnScope (nth (clsBody (st 68)) 0), globals := 0, closure := [], defaults := .none, kwdefaults := .none, doc := .none, pyModule := .none, annotations := none, code := .none, closureTuple := .none, builtins := 0 }), #[]⟩
noncomputable def o357_0 : Params → Obj := fun P => ⟨(.type "code"), none, (.fields #[.str "__init__" 1187, .str "CodeIn.__init__" 1188, .str "/claim/cut.py" 1189, .int 245 0, .int 2 0, .int 0 0, .int 0 0, .int 3 0, .ref 352, .bool true, .int 181 0, .ref 353, .none, .ref 354, .ref 355, .ref 356, .int 1192 0, .int 245 0, .str "/claim/cut.py" 1193]), #[]⟩
noncomputable def o358_0 : Params → Obj := fun P => ⟨(.type "function"), none, (.func { name := "__init__", qualname := "CodeIn.__init__", params := fnArgs (nth (clsBody (st 68)) 0), body := .stmts (fnBody (nth (clsBody (st 68)) 0)), scope := fnScope (nth (clsBody (st 68)) 0), globals := 3, closure := [], defaults := .none, kwdefaults := .none, doc := .none, pyModule := (.str "framerune.ilcode" 946), annotations := none, code := (.ref 357), closureTuple := .none, builtins := 0 }), #[]⟩
noncomputable def o359_0 : Params → Obj := fun P => ⟨(.type "tuple"), none, (.seq #[] 0), #[]⟩
noncomputable def o360_0 : Params → Obj := fun P => ⟨.none, none, (.fields #[]), #[]⟩
noncomputable def o361_0 : Params → Obj := fun P => ⟨(.type "tuple"), none, (.seq #[.str "self" 1198, .str "width" 1199, .str "n" 1200, .str "place" 1201] 0), #[]⟩
noncomputable def o362_0 : Params → Obj := fun P => ⟨(.type "tuple"), none, (.seq #[] 0), #[]⟩
noncomputable def o363_0 : Params → Obj := fun P => ⟨.none, none, (.func { name := "number", qualname := "CodeIn.number", params := fnArgs (nth (clsBody (st 68)) 1), body := .stmts (fnBody (nth (clsBody (st 68)) 1)), scope := fnScope (nth (clsBody (st 68)) 1), globals := 0, closure := [], defaults := .none, kwdefaults := .none, doc := .none, pyModule := .none, annotations := none, code := .none, closureTuple := .none, builtins := 0 }), #[]⟩
noncomputable def o364_0 : Params → Obj := fun P => ⟨(.type "code"), none, (.fields #[.str "number" 1195, .str "CodeIn.number" 1196, .str "/claim/cut.py" 1197, .int 249 0, .int 2 0, .int 0 0, .int 0 0, .int 3 0, .ref 359, .bool true, .int 181 0, .ref 360, .none, .ref 361, .ref 362, .ref 363, .int 1202 0, .int 249 0, .str "/claim/cut.py" 1203]), #[]⟩
noncomputable def o365_0 : Params → Obj := fun P => ⟨(.type "function"), none, (.func { name := "number", qualname := "CodeIn.number", params := fnArgs (nth (clsBody (st 68)) 1), body := .stmts (fnBody (nth (clsBody (st 68)) 1)), scope := fnScope (nth (clsBody (st 68)) 1), globals := 3, closure := [], defaults := .none, kwdefaults := .none, doc := .none, pyModule := (.str "framerune.ilcode" 946), annotations := none, code := (.ref 364), closureTuple := .none, builtins := 0 }), #[]⟩
noncomputable def o366_0 : Params → Obj := fun P => ⟨(.type "tuple"), none, (.seq #[] 0), #[]⟩
noncomputable def o367_0 : Params → Obj := fun P => ⟨.none, none, (.fields #[]), #[]⟩
noncomputable def o368_0 : Params → Obj := fun P => ⟨(.type "tuple"), none, (.seq #[.str "self" 1208, .str "width" 1209, .str "n" 1210] 0), #[]⟩
noncomputable def o369_0 : Params → Obj := fun P => ⟨(.type "tuple"), none, (.seq #[] 0), #[]⟩
noncomputable def o370_0 : Params → Obj := fun P => ⟨.none, none, (.func { name := "signed", qualname := "CodeIn.signed", params := fnArgs (nth (clsBody (st 68)) 2), body := .stmts (fnBody (nth (clsBody (st 68)) 2)), scope := fnScope (nth (clsBody (st 68)) 2), globals := 0, closure := [], defaults := .none, kwdefaults := .none, doc := .none, pyModule := .none, annotations := none, code := .none, closureTuple := .none, builtins := 0 }), #[]⟩
noncomputable def o371_0 : Params → Obj := fun P => ⟨(.type "code"), none, (.fields #[.str "signed" 1205, .str "CodeIn.signed" 1206, .str "/claim/cut.py" 1207, .int 258 0, .int 2 0, .int 0 0, .int 0 0, .int 3 0, .ref 366, .bool true, .int 181 0, .ref 367, .none, .ref 368, .ref 369, .ref 370, .int 1211 0, .int 258 0, .str "/claim/cut.py" 1212]), #[]⟩
noncomputable def o372_0 : Params → Obj := fun P => ⟨(.type "function"), none, (.func { name := "signed", qualname := "CodeIn.signed", params := fnArgs (nth (clsBody (st 68)) 2), body := .stmts (fnBody (nth (clsBody (st 68)) 2)), scope := fnScope (nth (clsBody (st 68)) 2), globals := 3, closure := [], defaults := .none, kwdefaults := .none, doc := .none, pyModule := (.str "framerune.ilcode" 946), annotations := none, code := (.ref 371), closureTuple := .none, builtins := 0 }), #[]⟩
noncomputable def o373_0 : Params → Obj := fun P => ⟨(.type "tuple"), none, (.seq #[.str "at" 1214, .str "data" 1215] 0), #[]⟩
noncomputable def o374_0 : Params → Obj := fun P => ⟨(.type "dict"), none, (.dict #[⟨PyData.keyHash P "__module__", .str "__module__" 1182, (.str "framerune.ilcode" 946)⟩, ⟨PyData.keyHash P "__firstlineno__", .str "__firstlineno__" 1186, (.int 243 1185)⟩, ⟨PyData.keyHash P "__init__", .str "__init__" 1194, (.ref 358)⟩, ⟨PyData.keyHash P "number", .str "number" 1204, (.ref 365)⟩, ⟨PyData.keyHash P "signed", .str "signed" 1213, (.ref 372)⟩, ⟨PyData.keyHash P "__static_attributes__", .str "__static_attributes__" 1216, (.ref 373)⟩, ⟨PyData.keyHash P "__dict__", .str "__dict__" 1218, (.ref 376)⟩, ⟨PyData.keyHash P "__weakref__", .str "__weakref__" 1220, (.ref 377)⟩, ⟨PyData.keyHash P "__doc__", .str "__doc__" 1221, .none⟩] 4), #[]⟩
noncomputable def o375_0 : Params → Obj := fun P => ⟨(.type "type"), none, (.cls { name := "CodeIn", bases := [.type "object"], mro := [.ref 375, .type "object"], ns := 374, qualname := "CodeIn", hasDict := true, slotNames := [], subclasses := [], abstract := false, collection := none, hasDel := false }), #[none, none, (some (.str "CodeIn" 1175)), (some (.str "CodeIn" 1183)), (some (.builtin "object.__new__")), (some (.bool true))]⟩
noncomputable def o376_0 : Params → Obj := fun P => ⟨(.type "getset_descriptor"), none, (.fields #[.str "__dict__" 1217, .ref 375, .builtin "function.__dict__", .builtin "function.__dict__#set"]), #[]⟩
noncomputable def o377_0 : Params → Obj := fun P => ⟨(.type "getset_descriptor"), none, (.fields #[.str "__weakref__" 1219, .ref 375, .builtin "ExceptionGroup.__weakref__", .none]), #[]⟩
noncomputable def o378_0 : Params → Obj := fun P => ⟨(.type "super"), none, (.fields #[.ref 375, .ref 375, .ref 375]), #[]⟩
noncomputable def o379_0 : Params → Obj := fun P => ⟨(.type "builtin_function_or_method"), none, (.fields #[.builtin "object.__init_subclass__", .ref 375]), #[]⟩
noncomputable def o380_0 : Params → Obj := fun P => ⟨(.type "tuple"), none, (.seq #[] 0), #[]⟩
noncomputable def o381_0 : Params → Obj := fun P => ⟨.none, none, (.fields #[]), #[]⟩
noncomputable def o382_0 : Params → Obj := fun P => ⟨(.type "tuple"), none, (.seq #[.str "inp" 1227, .str "tokens" 1228, .str "at" 1229, .str "octet" 1230, .str "op" 1231] 0), #[]⟩
noncomputable def o383_0 : Params → Obj := fun P => ⟨(.type "tuple"), none, (.seq #[] 0), #[]⟩
noncomputable def o384_0 : Params → Obj := fun P => ⟨.none, none, (.func { name := "il_read_ins", qualname := "il_read_ins", params := fnArgs (st 69), body := .stmts (fnBody (st 69)), scope := fnScope (st 69), globals := 0, closure := [], defaults := .none, kwdefaults := .none, doc := .none, pyModule := .none, annotations := none, code := .none, closureTuple := .none, builtins := 0 }), #[]⟩
noncomputable def o385_0 : Params → Obj := fun P => ⟨(.type "code"), none, (.fields #[.str "il_read_ins" 1224, .str "il_read_ins" 1225, .str "/claim/cut.py" 1226, .int 263 0, .int 2 0, .int 0 0, .int 0 0, .int 3 0, .ref 380, .bool true, .int 181 0, .ref 381, .none, .ref 382, .ref 383, .ref 384, .int 1232 0, .int 263 0, .str "/claim/cut.py" 1233]), #[]⟩
noncomputable def o386_0 : Params → Obj := fun P => ⟨(.type "function"), none, (.func { name := "il_read_ins", qualname := "il_read_ins", params := fnArgs (st 69), body := .stmts (fnBody (st 69)), scope := fnScope (st 69), globals := 3, closure := [], defaults := .none, kwdefaults := .none, doc := .none, pyModule := (.str "framerune.ilcode" 946), annotations := none, code := (.ref 385), closureTuple := .none, builtins := 0 }), #[]⟩
noncomputable def o387_0 : Params → Obj := fun P => ⟨(.type "tuple"), none, (.seq #[] 0), #[]⟩
noncomputable def o388_0 : Params → Obj := fun P => ⟨.none, none, (.fields #[]), #[]⟩
noncomputable def o389_0 : Params → Obj := fun P => ⟨(.type "tuple"), none, (.seq #[.str "inp" 1238, .str "row" 1239, .str "way" 1240] 0), #[]⟩
noncomputable def o390_0 : Params → Obj := fun P => ⟨(.type "tuple"), none, (.seq #[] 0), #[]⟩
noncomputable def o391_0 : Params → Obj := fun P => ⟨.none, none, (.func { name := "il_read_short", qualname := "il_read_short", params := fnArgs (st 70), body := .stmts (fnBody (st 70)), scope := fnScope (st 70), globals := 0, closure := [], defaults := .none, kwdefaults := .none, doc := .none, pyModule := .none, annotations := none, code := .none, closureTuple := .none, builtins := 0 }), #[]⟩
noncomputable def o392_0 : Params → Obj := fun P => ⟨(.type "code"), none, (.fields #[.str "il_read_short" 1235, .str "il_read_short" 1236, .str "/claim/cut.py" 1237, .int 276 0, .int 2 0, .int 0 0, .int 0 0, .int 3 0, .ref 387, .bool true, .int 181 0, .ref 388, .none, .ref 389, .ref 390, .ref 391, .int 1241 0, .int 276 0, .str "/claim/cut.py" 1242]), #[]⟩
noncomputable def o393_0 : Params → Obj := fun P => ⟨(.type "function"), none, (.func { name := "il_read_short", qualname := "il_read_short", params := fnArgs (st 70), body := .stmts (fnBody (st 70)), scope := fnScope (st 70), globals := 3, closure := [], defaults := .none, kwdefaults := .none, doc := .none, pyModule := (.str "framerune.ilcode" 946), annotations := none, code := (.ref 392), closureTuple := .none, builtins := 0 }), #[]⟩
noncomputable def t3_9 : Params → Obj := o3_9
noncomputable def t338_0 : Params → Obj := o338_0
noncomputable def t340_0 : Params → Obj := o340_0
noncomputable def t341_0 : Params → Obj := o341_0
noncomputable def t342_0 : Params → Obj := o342_0
noncomputable def t343_0 : Params → Obj := o343_0
noncomputable def t344_0 : Params → Obj := o344_0
noncomputable def t345_0 : Params → Obj := o345_0
noncomputable def t346_0 : Params → Obj := o346_0
noncomputable def t347_0 : Params → Obj := o347_0
noncomputable def t348_0 : Params → Obj := o348_0
noncomputable def t350_0 : Params → Obj := o350_0
noncomputable def t351_0 : Params → Obj := o351_0
noncomputable def t352_0 : Params → Obj := o352_0
noncomputable def t354_0 : Params → Obj := o354_0
noncomputable def t355_0 : Params → Obj := o355_0
noncomputable def t356_0 : Params → Obj := o356_0
noncomputable def t357_0 : Params → Obj := o357_0
noncomputable def t358_0 : Params → Obj := o358_0
noncomputable def t359_0 : Params → Obj := o359_0
noncomputable def t361_0 : Params → Obj := o361_0
noncomputable def t362_0 : Params → Obj := o362_0
noncomputable def t363_0 : Params → Obj := o363_0
noncomputable def t364_0 : Params → Obj := o364_0
noncomputable def t365_0 : Params → Obj := o365_0
noncomputable def t366_0 : Params → Obj := o366_0
noncomputable def t368_0 : Params → Obj := o368_0
noncomputable def t369_0 : Params → Obj := o369_0
noncomputable def t370_0 : Params → Obj := o370_0
noncomputable def t371_0 : Params → Obj := o371_0
noncomputable def t372_0 : Params → Obj := o372_0
noncomputable def t373_0 : Params → Obj := o373_0
noncomputable def t374_0 : Params → Obj := o374_0
noncomputable def t375_0 : Params → Obj := o375_0
noncomputable def t376_0 : Params → Obj := o376_0
noncomputable def t377_0 : Params → Obj := o377_0
noncomputable def t378_0 : Params → Obj := o378_0
noncomputable def t379_0 : Params → Obj := o379_0
noncomputable def t380_0 : Params → Obj := o380_0
noncomputable def t382_0 : Params → Obj := o382_0
noncomputable def t383_0 : Params → Obj := o383_0
noncomputable def t384_0 : Params → Obj := o384_0
noncomputable def t385_0 : Params → Obj := o385_0
noncomputable def t386_0 : Params → Obj := o386_0
noncomputable def t387_0 : Params → Obj := o387_0
noncomputable def t389_0 : Params → Obj := o389_0
noncomputable def t390_0 : Params → Obj := o390_0
noncomputable def t391_0 : Params → Obj := o391_0
noncomputable def t392_0 : Params → Obj := o392_0
noncomputable def t393_0 : Params → Obj := o393_0
noncomputable def T10 : Params → BT := fun P => (N (t0_0 P) (N (boot_o_1 P) (N (t3_9 P) (N (boot_o_7 P) (N (t15_0 P) (N (t31_0 P) (N (t63_0 P) (N (t127_0 P) (N (o255_0 P) E E) (N (t383_0 P) E E)) (N (t191_0 P) (N (t319_0 P) E E) E)) (N (t95_0 P) (N (t159_0 P) (N (t287_0 P) E E) E) (N (t223_0 P) (N (t351_0 P) E E) E))) (N (t47_0 P) (N (t79_0 P) (N (o143_0 P) (N (t271_0 P) E E) E) (N (t207_0 P) (N (t335_0 P) E E) E)) (N (t111_0 P) (N (t175_0 P) (N (t303_0 P) E E) E) (N (t239_0 P) (N (o367_0 P) E E) E)))) (N (t23_0 P) (N (t39_0 P) (N (t71_0 P) (N (t135_0 P) (N (t263_0 P) E E) (N (t391_0 P) E E)) (N (o199_0 P) (N (t327_0 P) E E) E)) (N (t103_0 P) (N (t167_0 P) (N (t295_0 P) E E) E) (N (t231_0 P) (N (t359_0 P) E E) E))) (N (t55_0 P) (N (t87_0 P) (N (t151_0 P) (N (t279_0 P) E E) E) (N (t215_0 P) (N (t343_0 P) E E) E)) (N (t119_0 P) (N (t183_0 P) (N (o311_0 P) E E) E) (N (t247_0 P) (N (t375_0 P) E E) E))))) (N (t11_0 P) (N (t19_0 P) (N (t35_0 P) (N (t67_0 P) (N (t131_0 P) (N (t259_0 P) E E) (N (t387_0 P) E E)) (N (o195_0 P) (N (t323_0 P) E E) E)) (N (t99_0 P) (N (t163_0 P) (N (t291_0 P) E E) E) (N (t227_0 P) (N (t355_0 P) E E) E))) (N (t51_0 P) (N (t83_0 P) (N (t147_0 P) (N (t275_0 P) E E) E) (N (t211_0 P) (N (o339_0 P) E E) E)) (N (t115_0 P) (N (t179_0 P) (N (t307_0 P) E E) E) (N (t243_0 P) (N (t371_0 P) E E) E)))) (N (t27_0 P) (N (t43_0 P) (N (t75_0 P) (N (t139_0 P) (N (t267_0 P) E E) E) (N (t203_0 P) (N (t331_0 P) E E) E)) (N (t107_0 P) (N (o171_0 P) (N (t299_0 P) E E) E) (N (t235_0 P) (N (t363_0 P) E E) E))) (N (t59_0 P) (N (t91_0 P) (N (t155_0 P) (N (o283_0 P) E E) E) (N (t219_0 P) (N (t347_0 P) E E) E)) (N (t123_0 P) (N (t187_0 P) (N (t315_0 P) E E) E) (N (t251_0 P) (N (t379_0 P) E E) E)))))) (N (boot_o_5 P) (N (boot_o_9 P) (N (t17_0 P) (N (t33_0 P) (N (t65_0 P) (N (t129_0 P) (N (t257_0 P) E E) (N (t385_0 P) E E)) (N (t193_0 P) (N (t321_0 P) E E) E)) (N (t97_0 P) (N (t161_0 P) (N (t289_0 P) E E) E) (N (t225_0 P) (N (o353_0 P) E E) E))) (N (t49_0 P) (N (t81_0 P) (N (t145_0 P) (N (t273_0 P) E E) E) (N (t209_0 P) (N (t337_0 P) E E) E)) (N (t113_0 P) (N (t177_0 P) (N (t305_0 P) E E) E) (N (o241_0 P) (N (t369_0 P) E E) E)))) (N (t25_0 P) (N (t41_0 P) (N (t73_0 P) (N (t137_0 P) (N (t265_0 P) E E) (N (t393_0 P) E E)) (N (t201_0 P) (N (t329_0 P) E E) E)) (N (t105_0 P) (N (t169_0 P) (N (o297_0 P) E E) E) (N (t233_0 P) (N (t361_0 P) E E) E))) (N (t57_0 P) (N (t89_0 P) (N (t153_0 P) (N (t281_0 P) E E) E) (N (t217_0 P) (N (t345_0 P) E E) E)) (N (t121_0 P) (N (o185_0 P) (N (t313_0 P) E E) E) (N (t249_0 P) (N (t377_0 P) E E) E))))) (N (t13_0 P) (N (t21_0 P) (N (t37_0 P) (N (t69_0 P) (N (t133_0 P) (N (t261_0 P) E E) (N (t389_0 P) E E)) (N (t197_0 P) (N (o325_0 P) E E) E)) (N (t101_0 P) (N (t165_0 P) (N (t293_0 P) E E) E) (N (t229_0 P) (N (t357_0 P) E E) E))) (N (t53_0 P) (N (t85_0 P) (N (t149_0 P) (N (t277_0 P) E E) E) (N (o213_0 P) (N (t341_0 P) E E) E)) (N (t117_0 P) (N (t181_0 P) (N (t309_0 P) E E) E) (N (t245_0 P) (N (t373_0 P) E E) E)))) (N (t29_0 P) (N (t45_0 P) (N (t77_0 P) (N (t141_0 P) (N (o269_0 P) E E) E) (N (t205_0 P) (N (t333_0 P) E E) E)) (N (t109_0 P) (N (t173_0 P) (N (t301_0 P) E E) E) (N (t237_0 P) (N (t365_0 P) E E) E))) (N (t61_0 P) (N (t93_0 P) (N (o157_0 P) (N (t285_0 P) E E) E) (N (t221_0 P) (N (o349_0 P) E E) E)) (N (t125_0 P) (N (t189_0 P) (N (t317_0 P) E E) E) (N (t253_0 P) (N (o381_0 P) E E) E))))))) (N (t2_0 P) (N (boot_o_4 P) (N (boot_o_8 P) (N (o16_0 P) (N (t32_0 P) (N (t64_0 P) (N (t128_0 P) (N (t256_0 P) E E) (N (t384_0 P) E E)) (N (t192_0 P) (N (t320_0 P) E E) E)) (N (t96_0 P) (N (t160_0 P) (N (t288_0 P) E E) E) (N (t224_0 P) (N (t352_0 P) E E) E))) (N (t48_0 P) (N (t80_0 P) (N (t144_0 P) (N (t272_0 P) E E) E) (N (t208_0 P) (N (t336_0 P) E E) E)) (N (t112_0 P) (N (t176_0 P) (N (o304_0 P) E E) E) (N (t240_0 P) (N (t368_0 P) E E) E)))) (N (t24_0 P) (N (t40_0 P) (N (t72_0 P) (N (t136_0 P) (N (t264_0 P) E E) (N (t392_0 P) E E)) (N (t200_0 P) (N (t328_0 P) E E) E)) (N (t104_0 P) (N (t168_0 P) (N (t296_0 P) E E) E) (N (t232_0 P) (N (o360_0 P) E E) E))) (N (t56_0 P) (N (t88_0 P) (N (t152_0 P) (N (t280_0 P) E E) E) (N (t216_0 P) (N (t344_0 P) E E) E)) (N (t120_0 P) (N (t184_0 P) (N (t312_0 P) E E) E) (N (o248_0 P) (N (t376_0 P) E E) E))))) (N (o12_6 P) (N (t20_0 P) (N (t36_0 P) (N (t68_0 P) (N (t132_0 P) (N (t260_0 P) E E) (N (o388_0 P) E E)) (N (t196_0 P) (N (t324_0 P) E E) E)) (N (t100_0 P) (N (o164_0 P) (N (t292_0 P) E E) E) (N (t228_0 P) (N (t356_0 P) E E) E))) (N (t52_0 P) (N (t84_0 P) (N (t148_0 P) (N (o276_0 P) E E) E) (N (t212_0 P) (N (t340_0 P) E E) E)) (N (t116_0 P) (N (t180_0 P) (N (t308_0 P) E E) E) (N (t244_0 P) (N (t372_0 P) E E) E)))) (N (t28_0 P) (N (t44_0 P) (N (t76_0 P) (N (t140_0 P) (N (t268_0 P) E E) E) (N (t204_0 P) (N (o332_0 P) E E) E)) (N (t108_0 P) (N (t172_0 P) (N (t300_0 P) E E) E) (N (t236_0 P) (N (t364_0 P) E E) E))) (N (t60_0 P) (N (t92_0 P) (N (t156_0 P) (N (t284_0 P) E E) E) (N (o220_0 P) (N (t348_0 P) E E) E)) (N (t124_0 P) (N (t188_0 P) (N (t316_0 P) E E) E) (N (t252_0 P) (N (t380_0 P) E E) E)))))) (N (boot_o_6 P) (N (boot_o_10 P) (N (t18_0 P) (N (t34_0 P) (N (t66_0 P) (N (t130_0 P) (N (t258_0 P) E E) (N (t386_0 P) E E)) (N (t194_0 P) (N (t322_0 P) E E) E)) (N (t98_0 P) (N (t162_0 P) (N (o290_0 P) E E) E) (N (t226_0 P) (N (t354_0 P) E E) E))) (N (t50_0 P) (N (t82_0 P) (N (t146_0 P) (N (t274_0 P) E E) E) (N (t210_0 P) (N (t338_0 P) E E) E)) (N (t114_0 P) (N (o178_0 P) (N (t306_0 P) E E) E) (N (t242_0 P) (N (t370_0 P) E E) E)))) (N (o26_0 P) (N (t42_0 P) (N (t74_0 P) (N (t138_0 P) (N (t266_0 P) E E) E) (N (t202_0 P) (N (t330_0 P) E E) E)) (N (t106_0 P) (N (t170_0 P) (N (t298_0 P) E E) E) (N (o234_0 P) (N (t362_0 P) E E) E))) (N (t58_0 P) (N (t90_0 P) (N (t154_0 P) (N (t282_0 P) E E) E) (N (t218_0 P) (N (t346_0 P) E E) E)) (N (t122_0 P) (N (t186_0 P) (N (t314_0 P) E E) E) (N (t250_0 P) (N (t378_0 P) E E) E))))) (N (t14_0 P) (N (t22_0 P) (N (t38_1 P) (N (t70_0 P) (N (t134_0 P) (N (o262_0 P) E E) (N (t390_0 P) E E)) (N (t198_0 P) (N (t326_0 P) E E) E)) (N (t102_0 P) (N (t166_0 P) (N (t294_0 P) E E) E) (N (t230_0 P) (N (t358_0 P) E E) E))) (N (t54_0 P) (N (t86_0 P) (N (o150_0 P) (N (t278_0 P) E E) E) (N (t214_0 P) (N (t342_0 P) E E) E)) (N (t118_0 P) (N (t182_0 P) (N (t310_0 P) E E) E) (N (t246_0 P) (N (t374_0 P) E E) E)))) (N (o30_0 P) (N (o46_0 P) (N (t78_0 P) (N (t142_0 P) (N (t270_0 P) E E) E) (N (o206_0 P) (N (t334_0 P) E E) E)) (N (t110_0 P) (N (t174_0 P) (N (t302_0 P) E E) E) (N (t238_0 P) (N (t366_0 P) E E) E))) (N (t62_0 P) (N (t94_0 P) (N (t158_0 P) (N (t286_0 P) E E) E) (N (t222_0 P) (N (t350_0 P) E E) E)) (N (t126_0 P) (N (t190_0 P) (N (o318_0 P) E E) E) (N (t254_0 P) (N (t382_0 P) E E) E))))))))
noncomputable def sts9 : List Stmt := [st 67, st 68, st 69, st 70]
noncomputable def Lg9 : World → OsState → Option (Flow × SharedT × Code × Pos) := fun w os => segRunT treeTable PySem.Challenge.pw_xm0288_01 w 11 ann_ 1 391 (⟨T9 w.params, 338, {}, Array.mk [], boot_drawn, 1161, os⟩ : SharedT) (piecesOf sts9 env_ cE ⟨220, 0, 229, 44⟩ B_)
noncomputable def Rg9 : World → OsState → Option (Flow × SharedT × Code × Pos) := fun w os => some (.next, (⟨T10 w.params, 394, {}, Array.mk [], boot_drawn, 1244, os⟩ : SharedT), cE, ⟨276, 0, 284, 33⟩)
theorem Pg9 : Lg9 = Rg9 := (by kernel_rfl)
noncomputable def en10 : Params → List DictEntry := fun P => [⟨PyData.keyHash P "il_read_operand", .str "il_read_operand" 1256, (.ref 400)⟩, ⟨PyData.keyHash P "read_switch", .str "read_switch" 1267, (.ref 407)⟩, ⟨PyData.keyHash P "places_of", .str "places_of" 1276, (.ref 414)⟩, ⟨PyData.keyHash P "goal_at", .str "goal_at" 1285, (.ref 421)⟩, ⟨PyData.keyHash P "place_targets", .str "place_targets" 1296, (.ref 428)⟩, ⟨PyData.keyHash P "decode", .str "decode" 1310, (.ref 435)⟩, ⟨PyData.keyHash P "_law_draw", .str "_law_draw" 1323, (.ref 442)⟩, ⟨PyData.keyHash P "_law_little", .str "_law_little" 1329, (.ref 447)⟩, ⟨PyData.keyHash P "_law_fill", .str "_law_fill" 1338, (.ref 454)⟩, ⟨PyData.keyHash P "_law_ladder", .str "_law_ladder" 1355, (.ref 461)⟩, ⟨PyData.keyHash P "_law_grown", .str "_law_grown" 1361, (.ref 466)⟩, ⟨PyData.keyHash P "_law_goal", .str "_law_goal" 1367, (.ref 471)⟩]
noncomputable def o3_10 : Params → Obj := fun P => ⟨(.type "dict"), none, .dict (([⟨PyData.keyHash P "__name__", .str "__name__" 165, (.str "law_xm0288_01" 1311)⟩, ⟨PyData.keyHash P "__doc__", .str "__doc__" 166, .none⟩, ⟨PyData.keyHash P "__package__", .str "__package__" 167, .none⟩, ⟨PyData.keyHash P "__loader__", .str "__loader__" 168, (.builtin "__main__.__loader__#opaque")⟩, ⟨PyData.keyHash P "__spec__", .str "__spec__" 169, .none⟩, ⟨PyData.keyHash P "__annotations__", .str "__annotations__" 170, (.ref 6)⟩, ⟨PyData.keyHash P "__builtins__", .str "__builtins__" 171, (.ref 4)⟩, ⟨PyData.keyHash P "__file__", .str "__file__" 173, (.str "/claim/cut.py" 172)⟩, ⟨PyData.keyHash P "__cached__", .str "__cached__" 174, .none⟩, ⟨PyData.keyHash P "_wall", .str "_wall" 193, (.ref 21)⟩, ⟨PyData.keyHash P "OP_LDC_I4", .str "OP_LDC_I4" 195, (.int 32 194)⟩, ⟨PyData.keyHash P "OP_BR", .str "OP_BR" 197, (.int 56 196)⟩, ⟨PyData.keyHash P "OP_SWITCH", .str "OP_SWITCH" 199, (.int 69 198)⟩, ⟨PyData.keyHash P "OP_CALLVIRT", .str "OP_CALLVIRT" 201, (.int 111 200)⟩, ⟨PyData.keyHash P "OP_LDELEMA", .str "OP_LDELEMA" 203, (.int 143 202)⟩, ⟨PyData.keyHash P "OP_LEAVE", .str "OP_LEAVE" 205, (.int 221 204)⟩] : List DictEntry) ++ en0 P ++ en1 P ++ en2 P ++ en3 P ++ en4 P ++ en5 P ++ en6 P ++ en7 P ++ en8 P ++ en9 P ++ en10 P ++ []).toArray 89, #[]⟩
noncomputable def o12_7 : Params → Obj := fun P => ⟨.none, none, (.fields #[.int 1 0, .int 0 0, .ref 20, .int 19 0, .int 0 0, .ref 27, .int 24 0, .int 0 0, .ref 47, .int 48 0, .int 0 0, .ref 147, .int 50 0, .int 0 0, .ref 154, .int 54 0, .int 0 0, .ref 161, .int 56 0, .int 0 0, .ref 168, .int 62 0, .int 0 0, .ref 175, .int 68 0, .int 0 0, .ref 182, .int 72 0, .int 0 0, .ref 189, .int 89 0, .int 0 0, .ref 196, .int 108 0, .int 0 0, .ref 238, .int 117 0, .int 0 0, .ref 245, .int 125 0, .int 0 0, .ref 252, .int 135 0, .int 0 0, .ref 259, .int 146 0, .int 0 0, .ref 266, .int 149 0, .int 0 0, .ref 273, .int 153 0, .int 0 0, .ref 280, .int 181 0, .int 0 0, .ref 287, .int 188 0, .int 0 0, .ref 294, .int 192 0, .int 0 0, .ref 301, .int 197 0, .int 0 0, .ref 308, .int 200 0, .int 0 0, .ref 315, .int 213 0, .int 0 0, .ref 322, .int 216 0, .int 0 0, .ref 329, .int 220 0, .int 0 0, .ref 336, .int 230 0, .int 0 0, .ref 343, .int 243 0, .int 0 0, .ref 350, .int 263 0, .int 0 0, .ref 385, .int 276 0, .int 0 0, .ref 392, .int 285 0, .int 0 0, .ref 399, .int 304 0, .int 0 0, .ref 406, .int 313 0, .int 0 0, .ref 413, .int 318 0, .int 0 0, .ref 420, .int 322 0, .int 0 0, .ref 427, .int 331 0, .int 0 0, .ref 434, .int 346 0, .int 0 0, .ref 441, .int 351 0, .int 0 0, .ref 446, .int 353 0, .int 0 0, .ref 453, .int 372 0, .int 0 0, .ref 460, .int 387 0, .int 0 0, .ref 465, .int 398 0, .int 0 0, .ref 470]), #[]⟩
noncomputable def o394_0 : Params → Obj := fun P => ⟨(.type "tuple"), none, (.seq #[] 0), #[]⟩
noncomputable def o395_0 : Params → Obj := fun P => ⟨.none, none, (.fields #[]), #[]⟩
noncomputable def o396_0 : Params → Obj := fun P => ⟨(.type "tuple"), none, (.seq #[.str "inp" 1247, .str "op" 1248, .str "at" 1249, .str "tokens" 1250, .str "sort" 1251, .str "way" 1252, .str "place" 1253] 0), #[]⟩
noncomputable def o397_0 : Params → Obj := fun P => ⟨(.type "tuple"), none, (.seq #[] 0), #[]⟩
noncomputable def o398_0 : Params → Obj := fun P => ⟨.none, none, (.func { name := "il_read_operand", qualname := "il_read_operand", params := fnArgs (st 71), body := .stmts (fnBody (st 71)), scope := fnScope (st 71), globals := 0, closure := [], defaults := .none, kwdefaults := .none, doc := .none, pyModule := .none, annotations := none, code := .none, closureTuple := .none, builtins := 0 }), #[]⟩
noncomputable def o399_0 : Params → Obj := fun P => ⟨(.type "code"), none, (.fields #[.str "il_read_operand" 1244, .str "il_read_operand" 1245, .str "/claim/cut.py" 1246, .int 285 0, .int 4 0, .int 0 0, .int 0 0, .int 3 0, .ref 394, .bool true, .int 181 0, .ref 395, .none, .ref 396, .ref 397, .ref 398, .int 1254 0, .int 285 0, .str "/claim/cut.py" 1255]), #[]⟩
noncomputable def o400_0 : Params → Obj := fun P => ⟨(.type "function"), none, (.func { name := "il_read_operand", qualname := "il_read_operand", params := fnArgs (st 71), body := .stmts (fnBody (st 71)), scope := fnScope (st 71), globals := 3, closure := [], defaults := .none, kwdefaults := .none, doc := .none, pyModule := (.str "framerune.ilcode" 946), annotations := none, code := (.ref 399), closureTuple := .none, builtins := 0 }), #[]⟩
noncomputable def o401_0 : Params → Obj := fun P => ⟨(.type "tuple"), none, (.seq #[] 0), #[]⟩
noncomputable def o402_0 : Params → Obj := fun P => ⟨.none, none, (.fields #[]), #[]⟩
noncomputable def o403_0 : Params → Obj := fun P => ⟨(.type "tuple"), none, (.seq #[.str "inp" 1260, .str "count" 1261, .str "end" 1262, .str "out" 1263, .str "place" 1264] 0), #[]⟩
noncomputable def o404_0 : Params → Obj := fun P => ⟨(.type "tuple"), none, (.seq #[] 0), #[]⟩
noncomputable def o405_0 : Params → Obj := fun P => ⟨.none, none, (.func { name := "read_switch", qualname := "read_switch", params := fnArgs (st 72), body := .stmts (fnBody (st 72)), scope := fnScope (st 72), globals := 0, closure := [], defaults := .none, kwdefaults := .none, doc := .none, pyModule := .none, annotations := none, code := .none, closureTuple := .none, builtins := 0 }), #[]⟩
noncomputable def o406_0 : Params → Obj := fun P => ⟨(.type "code"), none, (.fields #[.str "read_switch" 1257, .str "read_switch" 1258, .str "/claim/cut.py" 1259, .int 304 0, .int 1 0, .int 0 0, .int 0 0, .int 3 0, .ref 401, .bool true, .int 181 0, .ref 402, .none, .ref 403, .ref 404, .ref 405, .int 1265 0, .int 304 0, .str "/claim/cut.py" 1266]), #[]⟩
noncomputable def o407_0 : Params → Obj := fun P => ⟨(.type "function"), none, (.func { name := "read_switch", qualname := "read_switch", params := fnArgs (st 72), body := .stmts (fnBody (st 72)), scope := fnScope (st 72), globals := 3, closure := [], defaults := .none, kwdefaults := .none, doc := .none, pyModule := (.str "framerune.ilcode" 946), annotations := none, code := (.ref 406), closureTuple := .none, builtins := 0 }), #[]⟩
noncomputable def o408_0 : Params → Obj := fun P => ⟨(.type "tuple"), none, (.seq #[] 0), #[]⟩
noncomputable def o409_0 : Params → Obj := fun P => ⟨.none, none, (.fields #[]), #[]⟩
noncomputable def o410_0 : Params → Obj := fun P => ⟨(.type "tuple"), none, (.seq #[.str "offsets" 1271, .str "out" 1272, .str "i" 1273] 0), #[]⟩
noncomputable def o411_0 : Params → Obj := fun P => ⟨(.type "tuple"), none, (.seq #[] 0), #[]⟩
noncomputable def o412_0 : Params → Obj := fun P => ⟨.none, none, (.func { name := "places_of", qualname := "places_of", params := fnArgs (st 73), body := .stmts (fnBody (st 73)), scope := fnScope (st 73), globals := 0, closure := [], defaults := .none, kwdefaults := .none, doc := .none, pyModule := .none, annotations := none, code := .none, closureTuple := .none, builtins := 0 }), #[]⟩
noncomputable def o413_0 : Params → Obj := fun P => ⟨(.type "code"), none, (.fields #[.str "places_of" 1268, .str "places_of" 1269, .str "/claim/cut.py" 1270, .int 313 0, .int 1 0, .int 0 0, .int 0 0, .int 3 0, .ref 408, .bool true, .int 181 0, .ref 409, .none, .ref 410, .ref 411, .ref 412, .int 1274 0, .int 313 0, .str "/claim/cut.py" 1275]), #[]⟩
noncomputable def o414_0 : Params → Obj := fun P => ⟨(.type "function"), none, (.func { name := "places_of", qualname := "places_of", params := fnArgs (st 73), body := .stmts (fnBody (st 73)), scope := fnScope (st 73), globals := 3, closure := [], defaults := .none, kwdefaults := .none, doc := .none, pyModule := (.str "framerune.ilcode" 946), annotations := none, code := (.ref 413), closureTuple := .none, builtins := 0 }), #[]⟩
noncomputable def o415_0 : Params → Obj := fun P => ⟨(.type "tuple"), none, (.seq #[] 0), #[]⟩
noncomputable def o416_0 : Params → Obj := fun P => ⟨.none, none, (.fields #[]), #[]⟩
noncomputable def o417_0 : Params → Obj := fun P => ⟨(.type "tuple"), none, (.seq #[.str "places" 1280, .str "offset" 1281, .str "i" 1282] 0), #[]⟩
noncomputable def o418_0 : Params → Obj := fun P => ⟨(.type "tuple"), none, (.seq #[] 0), #[]⟩
noncomputable def o419_0 : Params → Obj := fun P => ⟨.none, none, (.func { name := "goal_at", qualname := "goal_at", params := fnArgs (st 74), body := .stmts (fnBody (st 74)), scope := fnScope (st 74), globals := 0, closure := [], defaults := .none, kwdefaults := .none, doc := .none, pyModule := .none, annotations := none, code := .none, closureTuple := .none, builtins := 0 }), #[]⟩
noncomputable def o420_0 : Params → Obj := fun P => ⟨(.type "code"), none, (.fields #[.str "goal_at" 1277, .str "goal_at" 1278, .str "/claim/cut.py" 1279, .int 318 0, .int 3 0, .int 0 0, .int 0 0, .int 3 0, .ref 415, .bool true, .int 181 0, .ref 416, .none, .ref 417, .ref 418, .ref 419, .int 1283 0, .int 318 0, .str "/claim/cut.py" 1284]), #[]⟩
noncomputable def o421_0 : Params → Obj := fun P => ⟨(.type "function"), none, (.func { name := "goal_at", qualname := "goal_at", params := fnArgs (st 74), body := .stmts (fnBody (st 74)), scope := fnScope (st 74), globals := 3, closure := [], defaults := .none, kwdefaults := .none, doc := .none, pyModule := (.str "framerune.ilcode" 946), annotations := none, code := (.ref 420), closureTuple := .none, builtins := 0 }), #[]⟩
noncomputable def o422_0 : Params → Obj := fun P => ⟨(.type "tuple"), none, (.seq #[] 0), #[]⟩
noncomputable def o423_0 : Params → Obj := fun P => ⟨.none, none, (.fields #[]), #[]⟩
noncomputable def o424_0 : Params → Obj := fun P => ⟨(.type "tuple"), none, (.seq #[.str "ins" 1289, .str "places" 1290, .str "i" 1291, .str "out" 1292, .str "offset" 1293] 0), #[]⟩
noncomputable def o425_0 : Params → Obj := fun P => ⟨(.type "tuple"), none, (.seq #[] 0), #[]⟩
noncomputable def o426_0 : Params → Obj := fun P => ⟨.none, none, (.func { name := "place_targets", qualname := "place_targets", params := fnArgs (st 75), body := .stmts (fnBody (st 75)), scope := fnScope (st 75), globals := 0, closure := [], defaults := .none, kwdefaults := .none, doc := .none, pyModule := .none, annotations := none, code := .none, closureTuple := .none, builtins := 0 }), #[]⟩
noncomputable def o427_0 : Params → Obj := fun P => ⟨(.type "code"), none, (.fields #[.str "place_targets" 1286, .str "place_targets" 1287, .str "/claim/cut.py" 1288, .int 322 0, .int 3 0, .int 0 0, .int 0 0, .int 3 0, .ref 422, .bool true, .int 181 0, .ref 423, .none, .ref 424, .ref 425, .ref 426, .int 1294 0, .int 322 0, .str "/claim/cut.py" 1295]), #[]⟩
noncomputable def o428_0 : Params → Obj := fun P => ⟨(.type "function"), none, (.func { name := "place_targets", qualname := "place_targets", params := fnArgs (st 75), body := .stmts (fnBody (st 75)), scope := fnScope (st 75), globals := 3, closure := [], defaults := .none, kwdefaults := .none, doc := .none, pyModule := (.str "framerune.ilcode" 946), annotations := none, code := (.ref 427), closureTuple := .none, builtins := 0 }), #[]⟩
noncomputable def o429_0 : Params → Obj := fun P => ⟨(.type "tuple"), none, (.seq #[] 0), #[]⟩
noncomputable def o430_0 : Params → Obj := fun P => ⟨.none, none, (.fields #[]), #[]⟩
noncomputable def o431_0 : Params → Obj := fun P => ⟨(.type "tuple"), none, (.seq #[.str "octets" 1300, .str "tokens" 1301, .str "inp" 1302, .str "rows" 1303, .str "offsets" 1304, .str "places" 1305, .str "code" 1306, .str "i" 1307] 0), #[]⟩
noncomputable def o432_0 : Params → Obj := fun P => ⟨(.type "tuple"), none, (.seq #[] 0), #[]⟩
noncomputable def o433_0 : Params → Obj := fun P => ⟨.none, none, (.func { name := "decode", qualname := "decode", params := fnArgs (st 76), body := .stmts (fnBody (st 76)), scope := fnScope (st 76), globals := 0, closure := [], defaults := .none, kwdefaults := .none, doc := .none, pyModule := .none, annotations := none, code := .none, closureTuple := .none, builtins := 0 }), #[]⟩
noncomputable def o434_0 : Params → Obj := fun P => ⟨(.type "code"), none, (.fields #[.str "decode" 1297, .str "decode" 1298, .str "/claim/cut.py" 1299, .int 331 0, .int 2 0, .int 0 0, .int 0 0, .int 3 0, .ref 429, .bool true, .int 181 0, .ref 430, .none, .ref 431, .ref 432, .ref 433, .int 1308 0, .int 331 0, .str "/claim/cut.py" 1309]), #[]⟩
noncomputable def o435_0 : Params → Obj := fun P => ⟨(.type "function"), none, (.func { name := "decode", qualname := "decode", params := fnArgs (st 76), body := .stmts (fnBody (st 76)), scope := fnScope (st 76), globals := 3, closure := [], defaults := .none, kwdefaults := .none, doc := .none, pyModule := (.str "framerune.ilcode" 946), annotations := none, code := (.ref 434), closureTuple := .none, builtins := 0 }), #[]⟩
noncomputable def o436_0 : Params → Obj := fun P => ⟨(.type "tuple"), none, (.seq #[] 0), #[]⟩
noncomputable def o437_0 : Params → Obj := fun P => ⟨.none, none, (.fields #[]), #[]⟩
noncomputable def o438_0 : Params → Obj := fun P => ⟨(.type "tuple"), none, (.seq #[.str "nums" 1316, .str "at" 1317, .str "n" 1318, .str "i" 1319, .str "k" 1320] 0), #[]⟩
noncomputable def o439_0 : Params → Obj := fun P => ⟨(.type "tuple"), none, (.seq #[] 0), #[]⟩
noncomputable def o440_0 : Params → Obj := fun P => ⟨.none, none, (.func { name := "_law_draw", qualname := "_law_draw", params := fnArgs (st 78), body := .stmts (fnBody (st 78)), scope := fnScope (st 78), globals := 0, closure := [], defaults := .none, kwdefaults := .none, doc := .none, pyModule := .none, annotations := none, code := .none, closureTuple := .none, builtins := 0 }), #[]⟩
noncomputable def o441_0 : Params → Obj := fun P => ⟨(.type "code"), none, (.fields #[.str "_law_draw" 1313, .str "_law_draw" 1314, .str "/claim/cut.py" 1315, .int 346 0, .int 3 0, .int 0 0, .int 0 0, .int 3 0, .ref 436, .bool true, .int 181 0, .ref 437, .none, .ref 438, .ref 439, .ref 440, .int 1321 0, .int 346 0, .str "/claim/cut.py" 1322]), #[]⟩
noncomputable def o442_0 : Params → Obj := fun P => ⟨(.type "function"), none, (.func { name := "_law_draw", qualname := "_law_draw", params := fnArgs (st 78), body := .stmts (fnBody (st 78)), scope := fnScope (st 78), globals := 3, closure := [], defaults := .none, kwdefaults := .none, doc := .none, pyModule := (.str "law_xm0288_01" 1311), annotations := none, code := (.ref 441), closureTuple := .none, builtins := 0 }), #[]⟩
noncomputable def o443_0 : Params → Obj := fun P => ⟨(.type "tuple"), none, (.seq #[] 0), #[]⟩
noncomputable def o444_0 : Params → Obj := fun P => ⟨.none, none, (.fields #[]), #[]⟩
noncomputable def o445_0 : Params → Obj := fun P => ⟨.none, none, (.func { name := "_law_little", qualname := "_law_little", params := fnArgs (st 79), body := .stmts (fnBody (st 79)), scope := fnScope (st 79), globals := 0, closure := [], defaults := .none, kwdefaults := .none, doc := .none, pyModule := .none, annotations := none, code := .none, closureTuple := .none, builtins := 0 }), #[]⟩
noncomputable def o446_0 : Params → Obj := fun P => ⟨(.type "code"), none, (.fields #[.str "_law_little" 1324, .str "_law_little" 1325, .str "/claim/cut.py" 1326, .int 351 0, .int 2 0, .int 0 0, .int 0 0, .int 3 0, .ref 443, .bool true, .int 181 0, .ref 444, .none, .none, .none, .ref 445, .int 1327 0, .int 351 0, .str "/claim/cut.py" 1328]), #[]⟩
noncomputable def o447_0 : Params → Obj := fun P => ⟨(.type "function"), none, (.func { name := "_law_little", qualname := "_law_little", params := fnArgs (st 79), body := .stmts (fnBody (st 79)), scope := fnScope (st 79), globals := 3, closure := [], defaults := .none, kwdefaults := .none, doc := .none, pyModule := (.str "law_xm0288_01" 1311), annotations := none, code := (.ref 446), closureTuple := .none, builtins := 0 }), #[]⟩
noncomputable def o448_0 : Params → Obj := fun P => ⟨(.type "tuple"), none, (.seq #[] 0), #[]⟩
noncomputable def o449_0 : Params → Obj := fun P => ⟨.none, none, (.fields #[]), #[]⟩
noncomputable def o450_0 : Params → Obj := fun P => ⟨(.type "tuple"), none, (.seq #[.str "size" 1333, .str "v" 1334, .str "rows" 1335] 0), #[]⟩
noncomputable def o451_0 : Params → Obj := fun P => ⟨(.type "tuple"), none, (.seq #[] 0), #[]⟩
noncomputable def o452_0 : Params → Obj := fun P => ⟨.none, none, (.func { name := "_law_fill", qualname := "_law_fill", params := fnArgs (st 80), body := .stmts (fnBody (st 80)), scope := fnScope (st 80), globals := 0, closure := [], defaults := .none, kwdefaults := .none, doc := .none, pyModule := .none, annotations := none, code := .none, closureTuple := .none, builtins := 0 }), #[]⟩
noncomputable def o453_0 : Params → Obj := fun P => ⟨(.type "code"), none, (.fields #[.str "_law_fill" 1330, .str "_law_fill" 1331, .str "/claim/cut.py" 1332, .int 353 0, .int 2 0, .int 0 0, .int 0 0, .int 3 0, .ref 448, .bool true, .int 181 0, .ref 449, .none, .ref 450, .ref 451, .ref 452, .int 1336 0, .int 353 0, .str "/claim/cut.py" 1337]), #[]⟩
noncomputable def o454_0 : Params → Obj := fun P => ⟨(.type "function"), none, (.func { name := "_law_fill", qualname := "_law_fill", params := fnArgs (st 80), body := .stmts (fnBody (st 80)), scope := fnScope (st 80), globals := 3, closure := [], defaults := .none, kwdefaults := .none, doc := .none, pyModule := (.str "law_xm0288_01" 1311), annotations := none, code := (.ref 453), closureTuple := .none, builtins := 0 }), #[]⟩
noncomputable def o455_0 : Params → Obj := fun P => ⟨(.type "tuple"), none, (.seq #[] 0), #[]⟩
noncomputable def o456_0 : Params → Obj := fun P => ⟨.none, none, (.fields #[]), #[]⟩
noncomputable def o457_0 : Params → Obj := fun P => ⟨(.type "tuple"), none, (.seq #[.str "nums" 1342, .str "at" 1343, .str "size" 1344, .str "k" 1345, .str "gap" 1346, .str "sides" 1347, .str "spare" 1348, .str "ops" 1349, .str "r" 1350, .str "op" 1351, .str "q" 1352] 0), #[]⟩
noncomputable def o458_0 : Params → Obj := fun P => ⟨(.type "tuple"), none, (.seq #[] 0), #[]⟩
noncomputable def o459_0 : Params → Obj := fun P => ⟨.none, none, (.func { name := "_law_ladder", qualname := "_law_ladder", params := fnArgs (st 81), body := .stmts (fnBody (st 81)), scope := fnScope (st 81), globals := 0, closure := [], defaults := .none, kwdefaults := .none, doc := .none, pyModule := .none, annotations := none, code := .none, closureTuple := .none, builtins := 0 }), #[]⟩
noncomputable def o460_0 : Params → Obj := fun P => ⟨(.type "code"), none, (.fields #[.str "_law_ladder" 1339, .str "_law_ladder" 1340, .str "/claim/cut.py" 1341, .int 372 0, .int 3 0, .int 0 0, .int 0 0, .int 3 0, .ref 455, .bool true, .int 181 0, .ref 456, .none, .ref 457, .ref 458, .ref 459, .int 1353 0, .int 372 0, .str "/claim/cut.py" 1354]), #[]⟩
noncomputable def o461_0 : Params → Obj := fun P => ⟨(.type "function"), none, (.func { name := "_law_ladder", qualname := "_law_ladder", params := fnArgs (st 81), body := .stmts (fnBody (st 81)), scope := fnScope (st 81), globals := 3, closure := [], defaults := .none, kwdefaults := .none, doc := .none, pyModule := (.str "law_xm0288_01" 1311), annotations := none, code := (.ref 460), closureTuple := .none, builtins := 0 }), #[]⟩
noncomputable def o462_0 : Params → Obj := fun P => ⟨(.type "tuple"), none, (.seq #[] 0), #[]⟩
noncomputable def o463_0 : Params → Obj := fun P => ⟨.none, none, (.fields #[]), #[]⟩
noncomputable def o464_0 : Params → Obj := fun P => ⟨.none, none, (.func { name := "_law_grown", qualname := "_law_grown", params := fnArgs (st 82), body := .stmts (fnBody (st 82)), scope := fnScope (st 82), globals := 0, closure := [], defaults := .none, kwdefaults := .none, doc := .none, pyModule := .none, annotations := none, code := .none, closureTuple := .none, builtins := 0 }), #[]⟩
noncomputable def o465_0 : Params → Obj := fun P => ⟨(.type "code"), none, (.fields #[.str "_law_grown" 1356, .str "_law_grown" 1357, .str "/claim/cut.py" 1358, .int 387 0, .int 2 0, .int 0 0, .int 0 0, .int 3 0, .ref 462, .bool true, .int 181 0, .ref 463, .none, .none, .none, .ref 464, .int 1359 0, .int 387 0, .str "/claim/cut.py" 1360]), #[]⟩
noncomputable def o466_0 : Params → Obj := fun P => ⟨(.type "function"), none, (.func { name := "_law_grown", qualname := "_law_grown", params := fnArgs (st 82), body := .stmts (fnBody (st 82)), scope := fnScope (st 82), globals := 3, closure := [], defaults := .none, kwdefaults := .none, doc := .none, pyModule := (.str "law_xm0288_01" 1311), annotations := none, code := (.ref 465), closureTuple := .none, builtins := 0 }), #[]⟩
noncomputable def o467_0 : Params → Obj := fun P => ⟨(.type "tuple"), none, (.seq #[] 0), #[]⟩
noncomputable def o468_0 : Params → Obj := fun P => ⟨.none, none, (.fields #[]), #[]⟩
noncomputable def o469_0 : Params → Obj := fun P => ⟨.none, none, (.func { name := "_law_goal", qualname := "_law_goal", params := fnArgs (st 83), body := .stmts (fnBody (st 83)), scope := fnScope (st 83), globals := 0, closure := [], defaults := .none, kwdefaults := .none, doc := .none, pyModule := .none, annotations := none, code := .none, closureTuple := .none, builtins := 0 }), #[]⟩
noncomputable def o470_0 : Params → Obj := fun P => ⟨(.type "code"), none, (.fields #[.str "_law_goal" 1362, .str "_law_goal" 1363, .str "/claim/cut.py" 1364, .int 398 0, .int 4 0, .int 0 0, .int 0 0, .int 3 0, .ref 467, .bool true, .int 181 0, .ref 468, .none, .none, .none, .ref 469, .int 1365 0, .int 398 0, .str "/claim/cut.py" 1366]), #[]⟩
noncomputable def o471_0 : Params → Obj := fun P => ⟨(.type "function"), none, (.func { name := "_law_goal", qualname := "_law_goal", params := fnArgs (st 83), body := .stmts (fnBody (st 83)), scope := fnScope (st 83), globals := 3, closure := [], defaults := .none, kwdefaults := .none, doc := .none, pyModule := (.str "law_xm0288_01" 1311), annotations := none, code := (.ref 470), closureTuple := .none, builtins := 0 }), #[]⟩
noncomputable def t3_10 : Params → Obj := o3_10
noncomputable def t394_0 : Params → Obj := o394_0
noncomputable def t396_0 : Params → Obj := o396_0
noncomputable def t397_0 : Params → Obj := o397_0
noncomputable def t398_0 : Params → Obj := o398_0
noncomputable def t399_0 : Params → Obj := o399_0
noncomputable def t400_0 : Params → Obj := o400_0
noncomputable def t401_0 : Params → Obj := o401_0
noncomputable def t403_0 : Params → Obj := o403_0
noncomputable def t404_0 : Params → Obj := o404_0
noncomputable def t405_0 : Params → Obj := o405_0
noncomputable def t406_0 : Params → Obj := o406_0
noncomputable def t407_0 : Params → Obj := o407_0
noncomputable def t408_0 : Params → Obj := o408_0
noncomputable def t410_0 : Params → Obj := o410_0
noncomputable def t411_0 : Params → Obj := o411_0
noncomputable def t412_0 : Params → Obj := o412_0
noncomputable def t413_0 : Params → Obj := o413_0
noncomputable def t414_0 : Params → Obj := o414_0
noncomputable def t415_0 : Params → Obj := o415_0
noncomputable def t417_0 : Params → Obj := o417_0
noncomputable def t418_0 : Params → Obj := o418_0
noncomputable def t419_0 : Params → Obj := o419_0
noncomputable def t420_0 : Params → Obj := o420_0
noncomputable def t421_0 : Params → Obj := o421_0
noncomputable def t422_0 : Params → Obj := o422_0
noncomputable def t424_0 : Params → Obj := o424_0
noncomputable def t425_0 : Params → Obj := o425_0
noncomputable def t426_0 : Params → Obj := o426_0
noncomputable def t427_0 : Params → Obj := o427_0
noncomputable def t428_0 : Params → Obj := o428_0
noncomputable def t429_0 : Params → Obj := o429_0
noncomputable def t431_0 : Params → Obj := o431_0
noncomputable def t432_0 : Params → Obj := o432_0
noncomputable def t433_0 : Params → Obj := o433_0
noncomputable def t434_0 : Params → Obj := o434_0
noncomputable def t435_0 : Params → Obj := o435_0
noncomputable def t436_0 : Params → Obj := o436_0
noncomputable def t438_0 : Params → Obj := o438_0
noncomputable def t439_0 : Params → Obj := o439_0
noncomputable def t440_0 : Params → Obj := o440_0
noncomputable def t441_0 : Params → Obj := o441_0
noncomputable def t442_0 : Params → Obj := o442_0
noncomputable def t443_0 : Params → Obj := o443_0
noncomputable def t445_0 : Params → Obj := o445_0
noncomputable def t446_0 : Params → Obj := o446_0
noncomputable def t447_0 : Params → Obj := o447_0
noncomputable def t448_0 : Params → Obj := o448_0
noncomputable def t450_0 : Params → Obj := o450_0
noncomputable def t451_0 : Params → Obj := o451_0
noncomputable def t452_0 : Params → Obj := o452_0
noncomputable def t453_0 : Params → Obj := o453_0
noncomputable def t454_0 : Params → Obj := o454_0
noncomputable def t455_0 : Params → Obj := o455_0
noncomputable def t457_0 : Params → Obj := o457_0
noncomputable def t458_0 : Params → Obj := o458_0
noncomputable def t459_0 : Params → Obj := o459_0
noncomputable def t460_0 : Params → Obj := o460_0
noncomputable def t461_0 : Params → Obj := o461_0
noncomputable def t462_0 : Params → Obj := o462_0
noncomputable def t464_0 : Params → Obj := o464_0
noncomputable def t465_0 : Params → Obj := o465_0
noncomputable def t466_0 : Params → Obj := o466_0
noncomputable def t467_0 : Params → Obj := o467_0
noncomputable def t469_0 : Params → Obj := o469_0
noncomputable def t470_0 : Params → Obj := o470_0
noncomputable def t471_0 : Params → Obj := o471_0
noncomputable def T11 : Params → BT := fun P => (N (t0_0 P) (N (boot_o_1 P) (N (t3_10 P) (N (boot_o_7 P) (N (t15_0 P) (N (t31_0 P) (N (t63_0 P) (N (t127_0 P) (N (o255_0 P) E E) (N (t383_0 P) E E)) (N (t191_0 P) (N (t319_0 P) E E) (N (t447_0 P) E E))) (N (t95_0 P) (N (t159_0 P) (N (t287_0 P) E E) (N (t415_0 P) E E)) (N (t223_0 P) (N (t351_0 P) E E) E))) (N (t47_0 P) (N (t79_0 P) (N (o143_0 P) (N (t271_0 P) E E) (N (t399_0 P) E E)) (N (t207_0 P) (N (t335_0 P) E E) (N (o463_0 P) E E))) (N (t111_0 P) (N (t175_0 P) (N (t303_0 P) E E) (N (t431_0 P) E E)) (N (t239_0 P) (N (o367_0 P) E E) E)))) (N (t23_0 P) (N (t39_0 P) (N (t71_0 P) (N (t135_0 P) (N (t263_0 P) E E) (N (t391_0 P) E E)) (N (o199_0 P) (N (t327_0 P) E E) (N (t455_0 P) E E))) (N (t103_0 P) (N (t167_0 P) (N (t295_0 P) E E) (N (o423_0 P) E E)) (N (t231_0 P) (N (t359_0 P) E E) E))) (N (t55_0 P) (N (t87_0 P) (N (t151_0 P) (N (t279_0 P) E E) (N (t407_0 P) E E)) (N (t215_0 P) (N (t343_0 P) E E) (N (t471_0 P) E E))) (N (t119_0 P) (N (t183_0 P) (N (o311_0 P) E E) (N (t439_0 P) E E)) (N (t247_0 P) (N (t375_0 P) E E) E))))) (N (t11_0 P) (N (t19_0 P) (N (t35_0 P) (N (t67_0 P) (N (t131_0 P) (N (t259_0 P) E E) (N (t387_0 P) E E)) (N (o195_0 P) (N (t323_0 P) E E) (N (t451_0 P) E E))) (N (t99_0 P) (N (t163_0 P) (N (t291_0 P) E E) (N (t419_0 P) E E)) (N (t227_0 P) (N (t355_0 P) E E) E))) (N (t51_0 P) (N (t83_0 P) (N (t147_0 P) (N (t275_0 P) E E) (N (t403_0 P) E E)) (N (t211_0 P) (N (o339_0 P) E E) (N (t467_0 P) E E))) (N (t115_0 P) (N (t179_0 P) (N (t307_0 P) E E) (N (t435_0 P) E E)) (N (t243_0 P) (N (t371_0 P) E E) E)))) (N (t27_0 P) (N (t43_0 P) (N (t75_0 P) (N (t139_0 P) (N (t267_0 P) E E) (N (o395_0 P) E E)) (N (t203_0 P) (N (t331_0 P) E E) (N (t459_0 P) E E))) (N (t107_0 P) (N (o171_0 P) (N (t299_0 P) E E) (N (t427_0 P) E E)) (N (t235_0 P) (N (t363_0 P) E E) E))) (N (t59_0 P) (N (t91_0 P) (N (t155_0 P) (N (o283_0 P) E E) (N (t411_0 P) E E)) (N (t219_0 P) (N (t347_0 P) E E) E)) (N (t123_0 P) (N (t187_0 P) (N (t315_0 P) E E) (N (t443_0 P) E E)) (N (t251_0 P) (N (t379_0 P) E E) E)))))) (N (boot_o_5 P) (N (boot_o_9 P) (N (t17_0 P) (N (t33_0 P) (N (t65_0 P) (N (t129_0 P) (N (t257_0 P) E E) (N (t385_0 P) E E)) (N (t193_0 P) (N (t321_0 P) E E) (N (o449_0 P) E E))) (N (t97_0 P) (N (t161_0 P) (N (t289_0 P) E E) (N (t417_0 P) E E)) (N (t225_0 P) (N (o353_0 P) E E) E))) (N (t49_0 P) (N (t81_0 P) (N (t145_0 P) (N (t273_0 P) E E) (N (t401_0 P) E E)) (N (t209_0 P) (N (t337_0 P) E E) (N (t465_0 P) E E))) (N (t113_0 P) (N (t177_0 P) (N (t305_0 P) E E) (N (t433_0 P) E E)) (N (o241_0 P) (N (t369_0 P) E E) E)))) (N (t25_0 P) (N (t41_0 P) (N (t73_0 P) (N (t137_0 P) (N (t265_0 P) E E) (N (t393_0 P) E E)) (N (t201_0 P) (N (t329_0 P) E E) (N (t457_0 P) E E))) (N (t105_0 P) (N (t169_0 P) (N (o297_0 P) E E) (N (t425_0 P) E E)) (N (t233_0 P) (N (t361_0 P) E E) E))) (N (t57_0 P) (N (t89_0 P) (N (t153_0 P) (N (t281_0 P) E E) (N (o409_0 P) E E)) (N (t217_0 P) (N (t345_0 P) E E) E)) (N (t121_0 P) (N (o185_0 P) (N (t313_0 P) E E) (N (t441_0 P) E E)) (N (t249_0 P) (N (t377_0 P) E E) E))))) (N (t13_0 P) (N (t21_0 P) (N (t37_0 P) (N (t69_0 P) (N (t133_0 P) (N (t261_0 P) E E) (N (t389_0 P) E E)) (N (t197_0 P) (N (o325_0 P) E E) (N (t453_0 P) E E))) (N (t101_0 P) (N (t165_0 P) (N (t293_0 P) E E) (N (t421_0 P) E E)) (N (t229_0 P) (N (t357_0 P) E E) E))) (N (t53_0 P) (N (t85_0 P) (N (t149_0 P) (N (t277_0 P) E E) (N (t405_0 P) E E)) (N (o213_0 P) (N (t341_0 P) E E) (N (t469_0 P) E E))) (N (t117_0 P) (N (t181_0 P) (N (t309_0 P) E E) (N (o437_0 P) E E)) (N (t245_0 P) (N (t373_0 P) E E) E)))) (N (t29_0 P) (N (t45_0 P) (N (t77_0 P) (N (t141_0 P) (N (o269_0 P) E E) (N (t397_0 P) E E)) (N (t205_0 P) (N (t333_0 P) E E) (N (t461_0 P) E E))) (N (t109_0 P) (N (t173_0 P) (N (t301_0 P) E E) (N (t429_0 P) E E)) (N (t237_0 P) (N (t365_0 P) E E) E))) (N (t61_0 P) (N (t93_0 P) (N (o157_0 P) (N (t285_0 P) E E) (N (t413_0 P) E E)) (N (t221_0 P) (N (o349_0 P) E E) E)) (N (t125_0 P) (N (t189_0 P) (N (t317_0 P) E E) (N (t445_0 P) E E)) (N (t253_0 P) (N (o381_0 P) E E) E))))))) (N (t2_0 P) (N (boot_o_4 P) (N (boot_o_8 P) (N (o16_0 P) (N (t32_0 P) (N (t64_0 P) (N (t128_0 P) (N (t256_0 P) E E) (N (t384_0 P) E E)) (N (t192_0 P) (N (t320_0 P) E E) (N (t448_0 P) E E))) (N (t96_0 P) (N (t160_0 P) (N (t288_0 P) E E) (N (o416_0 P) E E)) (N (t224_0 P) (N (t352_0 P) E E) E))) (N (t48_0 P) (N (t80_0 P) (N (t144_0 P) (N (t272_0 P) E E) (N (t400_0 P) E E)) (N (t208_0 P) (N (t336_0 P) E E) (N (t464_0 P) E E))) (N (t112_0 P) (N (t176_0 P) (N (o304_0 P) E E) (N (t432_0 P) E E)) (N (t240_0 P) (N (t368_0 P) E E) E)))) (N (t24_0 P) (N (t40_0 P) (N (t72_0 P) (N (t136_0 P) (N (t264_0 P) E E) (N (t392_0 P) E E)) (N (t200_0 P) (N (t328_0 P) E E) (N (o456_0 P) E E))) (N (t104_0 P) (N (t168_0 P) (N (t296_0 P) E E) (N (t424_0 P) E E)) (N (t232_0 P) (N (o360_0 P) E E) E))) (N (t56_0 P) (N (t88_0 P) (N (t152_0 P) (N (t280_0 P) E E) (N (t408_0 P) E E)) (N (t216_0 P) (N (t344_0 P) E E) E)) (N (t120_0 P) (N (t184_0 P) (N (t312_0 P) E E) (N (t440_0 P) E E)) (N (o248_0 P) (N (t376_0 P) E E) E))))) (N (o12_7 P) (N (t20_0 P) (N (t36_0 P) (N (t68_0 P) (N (t132_0 P) (N (t260_0 P) E E) (N (o388_0 P) E E)) (N (t196_0 P) (N (t324_0 P) E E) (N (t452_0 P) E E))) (N (t100_0 P) (N (o164_0 P) (N (t292_0 P) E E) (N (t420_0 P) E E)) (N (t228_0 P) (N (t356_0 P) E E) E))) (N (t52_0 P) (N (t84_0 P) (N (t148_0 P) (N (o276_0 P) E E) (N (t404_0 P) E E)) (N (t212_0 P) (N (t340_0 P) E E) (N (o468_0 P) E E))) (N (t116_0 P) (N (t180_0 P) (N (t308_0 P) E E) (N (t436_0 P) E E)) (N (t244_0 P) (N (t372_0 P) E E) E)))) (N (t28_0 P) (N (t44_0 P) (N (t76_0 P) (N (t140_0 P) (N (t268_0 P) E E) (N (t396_0 P) E E)) (N (t204_0 P) (N (o332_0 P) E E) (N (t460_0 P) E E))) (N (t108_0 P) (N (t172_0 P) (N (t300_0 P) E E) (N (t428_0 P) E E)) (N (t236_0 P) (N (t364_0 P) E E) E))) (N (t60_0 P) (N (t92_0 P) (N (t156_0 P) (N (t284_0 P) E E) (N (t412_0 P) E E)) (N (o220_0 P) (N (t348_0 P) E E) E)) (N (t124_0 P) (N (t188_0 P) (N (t316_0 P) E E) (N (o444_0 P) E E)) (N (t252_0 P) (N (t380_0 P) E E) E)))))) (N (boot_o_6 P) (N (boot_o_10 P) (N (t18_0 P) (N (t34_0 P) (N (t66_0 P) (N (t130_0 P) (N (t258_0 P) E E) (N (t386_0 P) E E)) (N (t194_0 P) (N (t322_0 P) E E) (N (t450_0 P) E E))) (N (t98_0 P) (N (t162_0 P) (N (o290_0 P) E E) (N (t418_0 P) E E)) (N (t226_0 P) (N (t354_0 P) E E) E))) (N (t50_0 P) (N (t82_0 P) (N (t146_0 P) (N (t274_0 P) E E) (N (o402_0 P) E E)) (N (t210_0 P) (N (t338_0 P) E E) (N (t466_0 P) E E))) (N (t114_0 P) (N (o178_0 P) (N (t306_0 P) E E) (N (t434_0 P) E E)) (N (t242_0 P) (N (t370_0 P) E E) E)))) (N (o26_0 P) (N (t42_0 P) (N (t74_0 P) (N (t138_0 P) (N (t266_0 P) E E) (N (t394_0 P) E E)) (N (t202_0 P) (N (t330_0 P) E E) (N (t458_0 P) E E))) (N (t106_0 P) (N (t170_0 P) (N (t298_0 P) E E) (N (t426_0 P) E E)) (N (o234_0 P) (N (t362_0 P) E E) E))) (N (t58_0 P) (N (t90_0 P) (N (t154_0 P) (N (t282_0 P) E E) (N (t410_0 P) E E)) (N (t218_0 P) (N (t346_0 P) E E) E)) (N (t122_0 P) (N (t186_0 P) (N (t314_0 P) E E) (N (t442_0 P) E E)) (N (t250_0 P) (N (t378_0 P) E E) E))))) (N (t14_0 P) (N (t22_0 P) (N (t38_1 P) (N (t70_0 P) (N (t134_0 P) (N (o262_0 P) E E) (N (t390_0 P) E E)) (N (t198_0 P) (N (t326_0 P) E E) (N (t454_0 P) E E))) (N (t102_0 P) (N (t166_0 P) (N (t294_0 P) E E) (N (t422_0 P) E E)) (N (t230_0 P) (N (t358_0 P) E E) E))) (N (t54_0 P) (N (t86_0 P) (N (o150_0 P) (N (t278_0 P) E E) (N (t406_0 P) E E)) (N (t214_0 P) (N (t342_0 P) E E) (N (t470_0 P) E E))) (N (t118_0 P) (N (t182_0 P) (N (t310_0 P) E E) (N (t438_0 P) E E)) (N (t246_0 P) (N (t374_0 P) E E) E)))) (N (o30_0 P) (N (o46_0 P) (N (t78_0 P) (N (t142_0 P) (N (t270_0 P) E E) (N (t398_0 P) E E)) (N (o206_0 P) (N (t334_0 P) E E) (N (t462_0 P) E E))) (N (t110_0 P) (N (t174_0 P) (N (t302_0 P) E E) (N (o430_0 P) E E)) (N (t238_0 P) (N (t366_0 P) E E) E))) (N (t62_0 P) (N (t94_0 P) (N (t158_0 P) (N (t286_0 P) E E) (N (t414_0 P) E E)) (N (t222_0 P) (N (t350_0 P) E E) E)) (N (t126_0 P) (N (t190_0 P) (N (o318_0 P) E E) (N (t446_0 P) E E)) (N (t254_0 P) (N (t382_0 P) E E) E))))))))
noncomputable def sts10 : List Stmt := [st 71, st 72, st 73, st 74, st 75, st 76, st 77, st 78, st 79, st 80, st 81, st 82, st 83]
noncomputable def Lg10 : World → OsState → Option (Flow × SharedT × Code × Pos) := fun w os => segRunT treeTable PySem.Challenge.pw_xm0288_01 w 11 ann_ 1 390 (⟨T10 w.params, 394, {}, Array.mk [], boot_drawn, 1244, os⟩ : SharedT) (piecesOf sts10 env_ cE ⟨276, 0, 284, 33⟩ B_)
noncomputable def Rg10 : World → OsState → Option (Flow × SharedT × Code × Pos) := fun w os => some (.next, (⟨T11 w.params, 472, {}, Array.mk [], boot_drawn, 1368, os⟩ : SharedT), cE, ⟨398, 0, 401, 65⟩)
theorem Pg10 : Lg10 = Rg10 := (by kernel_rfl)
noncomputable def en11 : Params → List DictEntry := fun P => [⟨PyData.keyHash P "_law_zone", .str "_law_zone" 1379, (.ref 478)⟩, ⟨PyData.keyHash P "_law_code", .str "_law_code" 1385, (.ref 483)⟩, ⟨PyData.keyHash P "_law_plain", .str "_law_plain" 1393, (.ref 490)⟩, ⟨PyData.keyHash P "_law_lay", .str "_law_lay" 1410, (.ref 497)⟩, ⟨PyData.keyHash P "law", .str "law" 1416, (.ref 502)⟩]
noncomputable def o3_11 : Params → Obj := fun P => ⟨(.type "dict"), none, .dict (([⟨PyData.keyHash P "__name__", .str "__name__" 165, (.str "law_xm0288_01" 1311)⟩, ⟨PyData.keyHash P "__doc__", .str "__doc__" 166, .none⟩, ⟨PyData.keyHash P "__package__", .str "__package__" 167, .none⟩, ⟨PyData.keyHash P "__loader__", .str "__loader__" 168, (.builtin "__main__.__loader__#opaque")⟩, ⟨PyData.keyHash P "__spec__", .str "__spec__" 169, .none⟩, ⟨PyData.keyHash P "__annotations__", .str "__annotations__" 170, (.ref 6)⟩, ⟨PyData.keyHash P "__builtins__", .str "__builtins__" 171, (.ref 4)⟩, ⟨PyData.keyHash P "__file__", .str "__file__" 173, (.str "/claim/cut.py" 172)⟩, ⟨PyData.keyHash P "__cached__", .str "__cached__" 174, .none⟩, ⟨PyData.keyHash P "_wall", .str "_wall" 193, (.ref 21)⟩, ⟨PyData.keyHash P "OP_LDC_I4", .str "OP_LDC_I4" 195, (.int 32 194)⟩, ⟨PyData.keyHash P "OP_BR", .str "OP_BR" 197, (.int 56 196)⟩, ⟨PyData.keyHash P "OP_SWITCH", .str "OP_SWITCH" 199, (.int 69 198)⟩, ⟨PyData.keyHash P "OP_CALLVIRT", .str "OP_CALLVIRT" 201, (.int 111 200)⟩, ⟨PyData.keyHash P "OP_LDELEMA", .str "OP_LDELEMA" 203, (.int 143 202)⟩, ⟨PyData.keyHash P "OP_LEAVE", .str "OP_LEAVE" 205, (.int 221 204)⟩] : List DictEntry) ++ en0 P ++ en1 P ++ en2 P ++ en3 P ++ en4 P ++ en5 P ++ en6 P ++ en7 P ++ en8 P ++ en9 P ++ en10 P ++ en11 P ++ []).toArray 94, #[]⟩
noncomputable def o12_8 : Params → Obj := fun P => ⟨.none, none, (.fields #[.int 1 0, .int 0 0, .ref 20, .int 19 0, .int 0 0, .ref 27, .int 24 0, .int 0 0, .ref 47, .int 48 0, .int 0 0, .ref 147, .int 50 0, .int 0 0, .ref 154, .int 54 0, .int 0 0, .ref 161, .int 56 0, .int 0 0, .ref 168, .int 62 0, .int 0 0, .ref 175, .int 68 0, .int 0 0, .ref 182, .int 72 0, .int 0 0, .ref 189, .int 89 0, .int 0 0, .ref 196, .int 108 0, .int 0 0, .ref 238, .int 117 0, .int 0 0, .ref 245, .int 125 0, .int 0 0, .ref 252, .int 135 0, .int 0 0, .ref 259, .int 146 0, .int 0 0, .ref 266, .int 149 0, .int 0 0, .ref 273, .int 153 0, .int 0 0, .ref 280, .int 181 0, .int 0 0, .ref 287, .int 188 0, .int 0 0, .ref 294, .int 192 0, .int 0 0, .ref 301, .int 197 0, .int 0 0, .ref 308, .int 200 0, .int 0 0, .ref 315, .int 213 0, .int 0 0, .ref 322, .int 216 0, .int 0 0, .ref 329, .int 220 0, .int 0 0, .ref 336, .int 230 0, .int 0 0, .ref 343, .int 243 0, .int 0 0, .ref 350, .int 263 0, .int 0 0, .ref 385, .int 276 0, .int 0 0, .ref 392, .int 285 0, .int 0 0, .ref 399, .int 304 0, .int 0 0, .ref 406, .int 313 0, .int 0 0, .ref 413, .int 318 0, .int 0 0, .ref 420, .int 322 0, .int 0 0, .ref 427, .int 331 0, .int 0 0, .ref 434, .int 346 0, .int 0 0, .ref 441, .int 351 0, .int 0 0, .ref 446, .int 353 0, .int 0 0, .ref 453, .int 372 0, .int 0 0, .ref 460, .int 387 0, .int 0 0, .ref 465, .int 398 0, .int 0 0, .ref 470, .int 402 0, .int 0 0, .ref 477, .int 411 0, .int 0 0, .ref 482, .int 435 0, .int 0 0, .ref 489, .int 445 0, .int 0 0, .ref 496, .int 471 0, .int 0 0, .ref 501]), #[]⟩
noncomputable def o472_0 : Params → Obj := fun P => ⟨(.type "tuple"), none, (.seq #[] 0), #[]⟩
noncomputable def o473_0 : Params → Obj := fun P => ⟨.none, none, (.fields #[]), #[]⟩
noncomputable def o474_0 : Params → Obj := fun P => ⟨(.type "tuple"), none, (.seq #[.str "goals" 1371, .str "v" 1372, .str "rows" 1373, .str "places" 1374, .str "was" 1375, .str "goal" 1376] 0), #[]⟩
noncomputable def o475_0 : Params → Obj := fun P => ⟨(.type "tuple"), none, (.seq #[] 0), #[]⟩
noncomputable def o476_0 : Params → Obj := fun P => ⟨.none, none, (.func { name := "_law_zone", qualname := "_law_zone", params := fnArgs (st 84), body := .stmts (fnBody (st 84)), scope := fnScope (st 84), globals := 0, closure := [], defaults := .none, kwdefaults := .none, doc := .none, pyModule := .none, annotations := none, code := .none, closureTuple := .none, builtins := 0 }), #[]⟩
noncomputable def o477_0 : Params → Obj := fun P => ⟨(.type "code"), none, (.fields #[.str "_law_zone" 1368, .str "_law_zone" 1369, .str "/claim/cut.py" 1370, .int 402 0, .int 2 0, .int 0 0, .int 0 0, .int 3 0, .ref 472, .bool true, .int 181 0, .ref 473, .none, .ref 474, .ref 475, .ref 476, .int 1377 0, .int 402 0, .str "/claim/cut.py" 1378]), #[]⟩
noncomputable def o478_0 : Params → Obj := fun P => ⟨(.type "function"), none, (.func { name := "_law_zone", qualname := "_law_zone", params := fnArgs (st 84), body := .stmts (fnBody (st 84)), scope := fnScope (st 84), globals := 3, closure := [], defaults := .none, kwdefaults := .none, doc := .none, pyModule := (.str "law_xm0288_01" 1311), annotations := none, code := (.ref 477), closureTuple := .none, builtins := 0 }), #[]⟩
noncomputable def o479_0 : Params → Obj := fun P => ⟨(.type "tuple"), none, (.seq #[] 0), #[]⟩
noncomputable def o480_0 : Params → Obj := fun P => ⟨.none, none, (.fields #[]), #[]⟩
noncomputable def o481_0 : Params → Obj := fun P => ⟨.none, none, (.func { name := "_law_code", qualname := "_law_code", params := fnArgs (st 85), body := .stmts (fnBody (st 85)), scope := fnScope (st 85), globals := 0, closure := [], defaults := .none, kwdefaults := .none, doc := .none, pyModule := .none, annotations := none, code := .none, closureTuple := .none, builtins := 0 }), #[]⟩
noncomputable def o482_0 : Params → Obj := fun P => ⟨(.type "code"), none, (.fields #[.str "_law_code" 1380, .str "_law_code" 1381, .str "/claim/cut.py" 1382, .int 411 0, .int 3 0, .int 0 0, .int 0 0, .int 3 0, .ref 479, .bool true, .int 181 0, .ref 480, .none, .none, .none, .ref 481, .int 1383 0, .int 411 0, .str "/claim/cut.py" 1384]), #[]⟩
noncomputable def o483_0 : Params → Obj := fun P => ⟨(.type "function"), none, (.func { name := "_law_code", qualname := "_law_code", params := fnArgs (st 85), body := .stmts (fnBody (st 85)), scope := fnScope (st 85), globals := 3, closure := [], defaults := .none, kwdefaults := .none, doc := .none, pyModule := (.str "law_xm0288_01" 1311), annotations := none, code := (.ref 482), closureTuple := .none, builtins := 0 }), #[]⟩
noncomputable def o484_0 : Params → Obj := fun P => ⟨(.type "tuple"), none, (.seq #[] 0), #[]⟩
noncomputable def o485_0 : Params → Obj := fun P => ⟨.none, none, (.fields #[]), #[]⟩
noncomputable def o486_0 : Params → Obj := fun P => ⟨(.type "tuple"), none, (.seq #[.str "op" 1389, .str "n" 1390] 0), #[]⟩
noncomputable def o487_0 : Params → Obj := fun P => ⟨(.type "tuple"), none, (.seq #[] 0), #[]⟩
noncomputable def o488_0 : Params → Obj := fun P => ⟨.none, none, (.func { name := "_law_plain", qualname := "_law_plain", params := fnArgs (st 86), body := .stmts (fnBody (st 86)), scope := fnScope (st 86), globals := 0, closure := [], defaults := .none, kwdefaults := .none, doc := .none, pyModule := .none, annotations := none, code := .none, closureTuple := .none, builtins := 0 }), #[]⟩
noncomputable def o489_0 : Params → Obj := fun P => ⟨(.type "code"), none, (.fields #[.str "_law_plain" 1386, .str "_law_plain" 1387, .str "/claim/cut.py" 1388, .int 435 0, .int 2 0, .int 0 0, .int 0 0, .int 3 0, .ref 484, .bool true, .int 181 0, .ref 485, .none, .ref 486, .ref 487, .ref 488, .int 1391 0, .int 435 0, .str "/claim/cut.py" 1392]), #[]⟩
noncomputable def o490_0 : Params → Obj := fun P => ⟨(.type "function"), none, (.func { name := "_law_plain", qualname := "_law_plain", params := fnArgs (st 86), body := .stmts (fnBody (st 86)), scope := fnScope (st 86), globals := 3, closure := [], defaults := .none, kwdefaults := .none, doc := .none, pyModule := (.str "law_xm0288_01" 1311), annotations := none, code := (.ref 489), closureTuple := .none, builtins := 0 }), #[]⟩
noncomputable def o491_0 : Params → Obj := fun P => ⟨(.type "tuple"), none, (.seq #[] 0), #[]⟩
noncomputable def o492_0 : Params → Obj := fun P => ⟨.none, none, (.fields #[]), #[]⟩
noncomputable def o493_0 : Params → Obj := fun P => ⟨(.type "tuple"), none, (.seq #[.str "code" 1397, .str "ranks" 1398, .str "longs" 1399, .str "offsets" 1400, .str "i" 1401, .str "op" 1402, .str "n" 1403, .str "size" 1404, .str "octets" 1405, .str "end" 1406, .str "goal" 1407] 0), #[]⟩
noncomputable def o494_0 : Params → Obj := fun P => ⟨(.type "tuple"), none, (.seq #[] 0), #[]⟩
noncomputable def o495_0 : Params → Obj := fun P => ⟨.none, none, (.func { name := "_law_lay", qualname := "_law_lay", params := fnArgs (st 87), body := .stmts (fnBody (st 87)), scope := fnScope (st 87), globals := 0, closure := [], defaults := .none, kwdefaults := .none, doc := .none, pyModule := .none, annotations := none, code := .none, closureTuple := .none, builtins := 0 }), #[]⟩
noncomputable def o496_0 : Params → Obj := fun P => ⟨(.type "code"), none, (.fields #[.str "_law_lay" 1394, .str "_law_lay" 1395, .str "/claim/cut.py" 1396, .int 445 0, .int 3 0, .int 0 0, .int 0 0, .int 3 0, .ref 491, .bool true, .int 181 0, .ref 492, .none, .ref 493, .ref 494, .ref 495, .int 1408 0, .int 445 0, .str "/claim/cut.py" 1409]), #[]⟩
noncomputable def o497_0 : Params → Obj := fun P => ⟨(.type "function"), none, (.func { name := "_law_lay", qualname := "_law_lay", params := fnArgs (st 87), body := .stmts (fnBody (st 87)), scope := fnScope (st 87), globals := 3, closure := [], defaults := .none, kwdefaults := .none, doc := .none, pyModule := (.str "law_xm0288_01" 1311), annotations := none, code := (.ref 496), closureTuple := .none, builtins := 0 }), #[]⟩
noncomputable def o498_0 : Params → Obj := fun P => ⟨(.type "tuple"), none, (.seq #[] 0), #[]⟩
noncomputable def o499_0 : Params → Obj := fun P => ⟨.none, none, (.fields #[]), #[]⟩
noncomputable def o500_0 : Params → Obj := fun P => ⟨.none, none, (.func { name := "law", qualname := "law", params := fnArgs (st 88), body := .stmts (fnBody (st 88)), scope := fnScope (st 88), globals := 0, closure := [], defaults := .none, kwdefaults := .none, doc := .none, pyModule := .none, annotations := none, code := .none, closureTuple := .none, builtins := 0 }), #[]⟩
noncomputable def o501_0 : Params → Obj := fun P => ⟨(.type "code"), none, (.fields #[.str "law" 1411, .str "law" 1412, .str "/claim/cut.py" 1413, .int 471 0, .int 1 0, .int 0 0, .int 0 0, .int 3 0, .ref 498, .bool true, .int 181 0, .ref 499, .none, .none, .none, .ref 500, .int 1414 0, .int 471 0, .str "/claim/cut.py" 1415]), #[]⟩
noncomputable def o502_0 : Params → Obj := fun P => ⟨(.type "function"), none, (.func { name := "law", qualname := "law", params := fnArgs (st 88), body := .stmts (fnBody (st 88)), scope := fnScope (st 88), globals := 3, closure := [], defaults := .none, kwdefaults := .none, doc := .none, pyModule := (.str "law_xm0288_01" 1311), annotations := none, code := (.ref 501), closureTuple := .none, builtins := 0 }), #[]⟩
noncomputable def t3_11 : Params → Obj := o3_11
noncomputable def t472_0 : Params → Obj := o472_0
noncomputable def t474_0 : Params → Obj := o474_0
noncomputable def t475_0 : Params → Obj := o475_0
noncomputable def t476_0 : Params → Obj := o476_0
noncomputable def t477_0 : Params → Obj := o477_0
noncomputable def t478_0 : Params → Obj := o478_0
noncomputable def t479_0 : Params → Obj := o479_0
noncomputable def t481_0 : Params → Obj := o481_0
noncomputable def t482_0 : Params → Obj := o482_0
noncomputable def t483_0 : Params → Obj := o483_0
noncomputable def t484_0 : Params → Obj := o484_0
noncomputable def t486_0 : Params → Obj := o486_0
noncomputable def t487_0 : Params → Obj := o487_0
noncomputable def t488_0 : Params → Obj := o488_0
noncomputable def t489_0 : Params → Obj := o489_0
noncomputable def t490_0 : Params → Obj := o490_0
noncomputable def t491_0 : Params → Obj := o491_0
noncomputable def t493_0 : Params → Obj := o493_0
noncomputable def t494_0 : Params → Obj := o494_0
noncomputable def t495_0 : Params → Obj := o495_0
noncomputable def t496_0 : Params → Obj := o496_0
noncomputable def t497_0 : Params → Obj := o497_0
noncomputable def t498_0 : Params → Obj := o498_0
noncomputable def t500_0 : Params → Obj := o500_0
noncomputable def t501_0 : Params → Obj := o501_0
noncomputable def t502_0 : Params → Obj := o502_0
noncomputable def T12 : Params → BT := fun P => (N (t0_0 P) (N (boot_o_1 P) (N (t3_11 P) (N (boot_o_7 P) (N (t15_0 P) (N (t31_0 P) (N (t63_0 P) (N (t127_0 P) (N (o255_0 P) E E) (N (t383_0 P) E E)) (N (t191_0 P) (N (t319_0 P) E E) (N (t447_0 P) E E))) (N (t95_0 P) (N (t159_0 P) (N (t287_0 P) E E) (N (t415_0 P) E E)) (N (t223_0 P) (N (t351_0 P) E E) (N (t479_0 P) E E)))) (N (t47_0 P) (N (t79_0 P) (N (o143_0 P) (N (t271_0 P) E E) (N (t399_0 P) E E)) (N (t207_0 P) (N (t335_0 P) E E) (N (o463_0 P) E E))) (N (t111_0 P) (N (t175_0 P) (N (t303_0 P) E E) (N (t431_0 P) E E)) (N (t239_0 P) (N (o367_0 P) E E) (N (t495_0 P) E E))))) (N (t23_0 P) (N (t39_0 P) (N (t71_0 P) (N (t135_0 P) (N (t263_0 P) E E) (N (t391_0 P) E E)) (N (o199_0 P) (N (t327_0 P) E E) (N (t455_0 P) E E))) (N (t103_0 P) (N (t167_0 P) (N (t295_0 P) E E) (N (o423_0 P) E E)) (N (t231_0 P) (N (t359_0 P) E E) (N (t487_0 P) E E)))) (N (t55_0 P) (N (t87_0 P) (N (t151_0 P) (N (t279_0 P) E E) (N (t407_0 P) E E)) (N (t215_0 P) (N (t343_0 P) E E) (N (t471_0 P) E E))) (N (t119_0 P) (N (t183_0 P) (N (o311_0 P) E E) (N (t439_0 P) E E)) (N (t247_0 P) (N (t375_0 P) E E) E))))) (N (t11_0 P) (N (t19_0 P) (N (t35_0 P) (N (t67_0 P) (N (t131_0 P) (N (t259_0 P) E E) (N (t387_0 P) E E)) (N (o195_0 P) (N (t323_0 P) E E) (N (t451_0 P) E E))) (N (t99_0 P) (N (t163_0 P) (N (t291_0 P) E E) (N (t419_0 P) E E)) (N (t227_0 P) (N (t355_0 P) E E) (N (t483_0 P) E E)))) (N (t51_0 P) (N (t83_0 P) (N (t147_0 P) (N (t275_0 P) E E) (N (t403_0 P) E E)) (N (t211_0 P) (N (o339_0 P) E E) (N (t467_0 P) E E))) (N (t115_0 P) (N (t179_0 P) (N (t307_0 P) E E) (N (t435_0 P) E E)) (N (t243_0 P) (N (t371_0 P) E E) (N (o499_0 P) E E))))) (N (t27_0 P) (N (t43_0 P) (N (t75_0 P) (N (t139_0 P) (N (t267_0 P) E E) (N (o395_0 P) E E)) (N (t203_0 P) (N (t331_0 P) E E) (N (t459_0 P) E E))) (N (t107_0 P) (N (o171_0 P) (N (t299_0 P) E E) (N (t427_0 P) E E)) (N (t235_0 P) (N (t363_0 P) E E) (N (t491_0 P) E E)))) (N (t59_0 P) (N (t91_0 P) (N (t155_0 P) (N (o283_0 P) E E) (N (t411_0 P) E E)) (N (t219_0 P) (N (t347_0 P) E E) (N (t475_0 P) E E))) (N (t123_0 P) (N (t187_0 P) (N (t315_0 P) E E) (N (t443_0 P) E E)) (N (t251_0 P) (N (t379_0 P) E E) E)))))) (N (boot_o_5 P) (N (boot_o_9 P) (N (t17_0 P) (N (t33_0 P) (N (t65_0 P) (N (t129_0 P) (N (t257_0 P) E E) (N (t385_0 P) E E)) (N (t193_0 P) (N (t321_0 P) E E) (N (o449_0 P) E E))) (N (t97_0 P) (N (t161_0 P) (N (t289_0 P) E E) (N (t417_0 P) E E)) (N (t225_0 P) (N (o353_0 P) E E) (N (t481_0 P) E E)))) (N (t49_0 P) (N (t81_0 P) (N (t145_0 P) (N (t273_0 P) E E) (N (t401_0 P) E E)) (N (t209_0 P) (N (t337_0 P) E E) (N (t465_0 P) E E))) (N (t113_0 P) (N (t177_0 P) (N (t305_0 P) E E) (N (t433_0 P) E E)) (N (o241_0 P) (N (t369_0 P) E E) (N (t497_0 P) E E))))) (N (t25_0 P) (N (t41_0 P) (N (t73_0 P) (N (t137_0 P) (N (t265_0 P) E E) (N (t393_0 P) E E)) (N (t201_0 P) (N (t329_0 P) E E) (N (t457_0 P) E E))) (N (t105_0 P) (N (t169_0 P) (N (o297_0 P) E E) (N (t425_0 P) E E)) (N (t233_0 P) (N (t361_0 P) E E) (N (t489_0 P) E E)))) (N (t57_0 P) (N (t89_0 P) (N (t153_0 P) (N (t281_0 P) E E) (N (o409_0 P) E E)) (N (t217_0 P) (N (t345_0 P) E E) (N (o473_0 P) E E))) (N (t121_0 P) (N (o185_0 P) (N (t313_0 P) E E) (N (t441_0 P) E E)) (N (t249_0 P) (N (t377_0 P) E E) E))))) (N (t13_0 P) (N (t21_0 P) (N (t37_0 P) (N (t69_0 P) (N (t133_0 P) (N (t261_0 P) E E) (N (t389_0 P) E E)) (N (t197_0 P) (N (o325_0 P) E E) (N (t453_0 P) E E))) (N (t101_0 P) (N (t165_0 P) (N (t293_0 P) E E) (N (t421_0 P) E E)) (N (t229_0 P) (N (t357_0 P) E E) (N (o485_0 P) E E)))) (N (t53_0 P) (N (t85_0 P) (N (t149_0 P) (N (t277_0 P) E E) (N (t405_0 P) E E)) (N (o213_0 P) (N (t341_0 P) E E) (N (t469_0 P) E E))) (N (t117_0 P) (N (t181_0 P) (N (t309_0 P) E E) (N (o437_0 P) E E)) (N (t245_0 P) (N (t373_0 P) E E) (N (t501_0 P) E E))))) (N (t29_0 P) (N (t45_0 P) (N (t77_0 P) (N (t141_0 P) (N (o269_0 P) E E) (N (t397_0 P) E E)) (N (t205_0 P) (N (t333_0 P) E E) (N (t461_0 P) E E))) (N (t109_0 P) (N (t173_0 P) (N (t301_0 P) E E) (N (t429_0 P) E E)) (N (t237_0 P) (N (t365_0 P) E E) (N (t493_0 P) E E)))) (N (t61_0 P) (N (t93_0 P) (N (o157_0 P) (N (t285_0 P) E E) (N (t413_0 P) E E)) (N (t221_0 P) (N (o349_0 P) E E) (N (t477_0 P) E E))) (N (t125_0 P) (N (t189_0 P) (N (t317_0 P) E E) (N (t445_0 P) E E)) (N (t253_0 P) (N (o381_0 P) E E) E))))))) (N (t2_0 P) (N (boot_o_4 P) (N (boot_o_8 P) (N (o16_0 P) (N (t32_0 P) (N (t64_0 P) (N (t128_0 P) (N (t256_0 P) E E) (N (t384_0 P) E E)) (N (t192_0 P) (N (t320_0 P) E E) (N (t448_0 P) E E))) (N (t96_0 P) (N (t160_0 P) (N (t288_0 P) E E) (N (o416_0 P) E E)) (N (t224_0 P) (N (t352_0 P) E E) (N (o480_0 P) E E)))) (N (t48_0 P) (N (t80_0 P) (N (t144_0 P) (N (t272_0 P) E E) (N (t400_0 P) E E)) (N (t208_0 P) (N (t336_0 P) E E) (N (t464_0 P) E E))) (N (t112_0 P) (N (t176_0 P) (N (o304_0 P) E E) (N (t432_0 P) E E)) (N (t240_0 P) (N (t368_0 P) E E) (N (t496_0 P) E E))))) (N (t24_0 P) (N (t40_0 P) (N (t72_0 P) (N (t136_0 P) (N (t264_0 P) E E) (N (t392_0 P) E E)) (N (t200_0 P) (N (t328_0 P) E E) (N (o456_0 P) E E))) (N (t104_0 P) (N (t168_0 P) (N (t296_0 P) E E) (N (t424_0 P) E E)) (N (t232_0 P) (N (o360_0 P) E E) (N (t488_0 P) E E)))) (N (t56_0 P) (N (t88_0 P) (N (t152_0 P) (N (t280_0 P) E E) (N (t408_0 P) E E)) (N (t216_0 P) (N (t344_0 P) E E) (N (t472_0 P) E E))) (N (t120_0 P) (N (t184_0 P) (N (t312_0 P) E E) (N (t440_0 P) E E)) (N (o248_0 P) (N (t376_0 P) E E) E))))) (N (o12_8 P) (N (t20_0 P) (N (t36_0 P) (N (t68_0 P) (N (t132_0 P) (N (t260_0 P) E E) (N (o388_0 P) E E)) (N (t196_0 P) (N (t324_0 P) E E) (N (t452_0 P) E E))) (N (t100_0 P) (N (o164_0 P) (N (t292_0 P) E E) (N (t420_0 P) E E)) (N (t228_0 P) (N (t356_0 P) E E) (N (t484_0 P) E E)))) (N (t52_0 P) (N (t84_0 P) (N (t148_0 P) (N (o276_0 P) E E) (N (t404_0 P) E E)) (N (t212_0 P) (N (t340_0 P) E E) (N (o468_0 P) E E))) (N (t116_0 P) (N (t180_0 P) (N (t308_0 P) E E) (N (t436_0 P) E E)) (N (t244_0 P) (N (t372_0 P) E E) (N (t500_0 P) E E))))) (N (t28_0 P) (N (t44_0 P) (N (t76_0 P) (N (t140_0 P) (N (t268_0 P) E E) (N (t396_0 P) E E)) (N (t204_0 P) (N (o332_0 P) E E) (N (t460_0 P) E E))) (N (t108_0 P) (N (t172_0 P) (N (t300_0 P) E E) (N (t428_0 P) E E)) (N (t236_0 P) (N (t364_0 P) E E) (N (o492_0 P) E E)))) (N (t60_0 P) (N (t92_0 P) (N (t156_0 P) (N (t284_0 P) E E) (N (t412_0 P) E E)) (N (o220_0 P) (N (t348_0 P) E E) (N (t476_0 P) E E))) (N (t124_0 P) (N (t188_0 P) (N (t316_0 P) E E) (N (o444_0 P) E E)) (N (t252_0 P) (N (t380_0 P) E E) E)))))) (N (boot_o_6 P) (N (boot_o_10 P) (N (t18_0 P) (N (t34_0 P) (N (t66_0 P) (N (t130_0 P) (N (t258_0 P) E E) (N (t386_0 P) E E)) (N (t194_0 P) (N (t322_0 P) E E) (N (t450_0 P) E E))) (N (t98_0 P) (N (t162_0 P) (N (o290_0 P) E E) (N (t418_0 P) E E)) (N (t226_0 P) (N (t354_0 P) E E) (N (t482_0 P) E E)))) (N (t50_0 P) (N (t82_0 P) (N (t146_0 P) (N (t274_0 P) E E) (N (o402_0 P) E E)) (N (t210_0 P) (N (t338_0 P) E E) (N (t466_0 P) E E))) (N (t114_0 P) (N (o178_0 P) (N (t306_0 P) E E) (N (t434_0 P) E E)) (N (t242_0 P) (N (t370_0 P) E E) (N (t498_0 P) E E))))) (N (o26_0 P) (N (t42_0 P) (N (t74_0 P) (N (t138_0 P) (N (t266_0 P) E E) (N (t394_0 P) E E)) (N (t202_0 P) (N (t330_0 P) E E) (N (t458_0 P) E E))) (N (t106_0 P) (N (t170_0 P) (N (t298_0 P) E E) (N (t426_0 P) E E)) (N (o234_0 P) (N (t362_0 P) E E) (N (t490_0 P) E E)))) (N (t58_0 P) (N (t90_0 P) (N (t154_0 P) (N (t282_0 P) E E) (N (t410_0 P) E E)) (N (t218_0 P) (N (t346_0 P) E E) (N (t474_0 P) E E))) (N (t122_0 P) (N (t186_0 P) (N (t314_0 P) E E) (N (t442_0 P) E E)) (N (t250_0 P) (N (t378_0 P) E E) E))))) (N (t14_0 P) (N (t22_0 P) (N (t38_1 P) (N (t70_0 P) (N (t134_0 P) (N (o262_0 P) E E) (N (t390_0 P) E E)) (N (t198_0 P) (N (t326_0 P) E E) (N (t454_0 P) E E))) (N (t102_0 P) (N (t166_0 P) (N (t294_0 P) E E) (N (t422_0 P) E E)) (N (t230_0 P) (N (t358_0 P) E E) (N (t486_0 P) E E)))) (N (t54_0 P) (N (t86_0 P) (N (o150_0 P) (N (t278_0 P) E E) (N (t406_0 P) E E)) (N (t214_0 P) (N (t342_0 P) E E) (N (t470_0 P) E E))) (N (t118_0 P) (N (t182_0 P) (N (t310_0 P) E E) (N (t438_0 P) E E)) (N (t246_0 P) (N (t374_0 P) E E) (N (t502_0 P) E E))))) (N (o30_0 P) (N (o46_0 P) (N (t78_0 P) (N (t142_0 P) (N (t270_0 P) E E) (N (t398_0 P) E E)) (N (o206_0 P) (N (t334_0 P) E E) (N (t462_0 P) E E))) (N (t110_0 P) (N (t174_0 P) (N (t302_0 P) E E) (N (o430_0 P) E E)) (N (t238_0 P) (N (t366_0 P) E E) (N (t494_0 P) E E)))) (N (t62_0 P) (N (t94_0 P) (N (t158_0 P) (N (t286_0 P) E E) (N (t414_0 P) E E)) (N (t222_0 P) (N (t350_0 P) E E) (N (t478_0 P) E E))) (N (t126_0 P) (N (t190_0 P) (N (o318_0 P) E E) (N (t446_0 P) E E)) (N (t254_0 P) (N (t382_0 P) E E) E))))))))
noncomputable def sts11 : List Stmt := [st 84, st 85, st 86, st 87, st 88]
noncomputable def Lg11 : World → OsState → Option (Flow × SharedT × Code × Pos) := fun w os => segRunT treeTable PySem.Challenge.pw_xm0288_01 w 11 ann_ 1 156 (⟨T11 w.params, 472, {}, Array.mk [], boot_drawn, 1368, os⟩ : SharedT) (piecesOf sts11 env_ cE ⟨398, 0, 401, 65⟩ B_)
noncomputable def Rg11 : World → OsState → Option (Flow × SharedT × Code × Pos) := fun w os => some (.next, (⟨T12 w.params, 503, {}, Array.mk [], boot_drawn, 1417, os⟩ : SharedT), cE, ⟨471, 0, 490, 53⟩)
theorem Pg11 : Lg11 = Rg11 := (by kernel_rfl)
noncomputable def Hf : Params → Heap := fun P => ⟨Array.mk [t0_0 P, boot_o_1 P, t2_0 P, t3_11 P, boot_o_4 P, boot_o_5 P, boot_o_6 P, boot_o_7 P, boot_o_8 P, boot_o_9 P, boot_o_10 P, t11_0 P, o12_8 P, t13_0 P, t14_0 P, t15_0 P, o16_0 P, t17_0 P, t18_0 P, t19_0 P, t20_0 P, t21_0 P, t22_0 P, t23_0 P, t24_0 P, t25_0 P, o26_0 P, t27_0 P, t28_0 P, t29_0 P, o30_0 P, t31_0 P, t32_0 P, t33_0 P, t34_0 P, t35_0 P, t36_0 P, t37_0 P, t38_1 P, t39_0 P, t40_0 P, t41_0 P, t42_0 P, t43_0 P, t44_0 P, t45_0 P, o46_0 P, t47_0 P, t48_0 P, t49_0 P, t50_0 P, t51_0 P, t52_0 P, t53_0 P, t54_0 P, t55_0 P, t56_0 P, t57_0 P, t58_0 P, t59_0 P, t60_0 P, t61_0 P, t62_0 P, t63_0 P, t64_0 P, t65_0 P, t66_0 P, t67_0 P, t68_0 P, t69_0 P, t70_0 P, t71_0 P, t72_0 P, t73_0 P, t74_0 P, t75_0 P, t76_0 P, t77_0 P, t78_0 P, t79_0 P, t80_0 P, t81_0 P, t82_0 P, t83_0 P, t84_0 P, t85_0 P, t86_0 P, t87_0 P, t88_0 P, t89_0 P, t90_0 P, t91_0 P, t92_0 P, t93_0 P, t94_0 P, t95_0 P, t96_0 P, t97_0 P, t98_0 P, t99_0 P, t100_0 P, t101_0 P, t102_0 P, t103_0 P, t104_0 P, t105_0 P, t106_0 P, t107_0 P, t108_0 P, t109_0 P, t110_0 P, t111_0 P, t112_0 P, t113_0 P, t114_0 P, t115_0 P, t116_0 P, t117_0 P, t118_0 P, t119_0 P, t120_0 P, t121_0 P, t122_0 P, t123_0 P, t124_0 P, t125_0 P, t126_0 P, t127_0 P, t128_0 P, t129_0 P, t130_0 P, t131_0 P, t132_0 P, t133_0 P, t134_0 P, t135_0 P, t136_0 P, t137_0 P, t138_0 P, t139_0 P, t140_0 P, t141_0 P, t142_0 P, o143_0 P, t144_0 P, t145_0 P, t146_0 P, t147_0 P, t148_0 P, t149_0 P, o150_0 P, t151_0 P, t152_0 P, t153_0 P, t154_0 P, t155_0 P, t156_0 P, o157_0 P, t158_0 P, t159_0 P, t160_0 P, t161_0 P, t162_0 P, t163_0 P, o164_0 P, t165_0 P, t166_0 P, t167_0 P, t168_0 P, t169_0 P, t170_0 P, o171_0 P, t172_0 P, t173_0 P, t174_0 P, t175_0 P, t176_0 P, t177_0 P, o178_0 P, t179_0 P, t180_0 P, t181_0 P, t182_0 P, t183_0 P, t184_0 P, o185_0 P, t186_0 P, t187_0 P, t188_0 P, t189_0 P, t190_0 P, t191_0 P, t192_0 P, t193_0 P, t194_0 P, o195_0 P, t196_0 P, t197_0 P, t198_0 P, o199_0 P, t200_0 P, t201_0 P, t202_0 P, t203_0 P, t204_0 P, t205_0 P, o206_0 P, t207_0 P, t208_0 P, t209_0 P, t210_0 P, t211_0 P, t212_0 P, o213_0 P, t214_0 P, t215_0 P, t216_0 P, t217_0 P, t218_0 P, t219_0 P, o220_0 P, t221_0 P, t222_0 P, t223_0 P, t224_0 P, t225_0 P, t226_0 P, t227_0 P, t228_0 P, t229_0 P, t230_0 P, t231_0 P, t232_0 P, t233_0 P, o234_0 P, t235_0 P, t236_0 P, t237_0 P, t238_0 P, t239_0 P, t240_0 P, o241_0 P, t242_0 P, t243_0 P, t244_0 P, t245_0 P, t246_0 P, t247_0 P, o248_0 P, t249_0 P, t250_0 P, t251_0 P, t252_0 P, t253_0 P, t254_0 P, o255_0 P, t256_0 P, t257_0 P, t258_0 P, t259_0 P, t260_0 P, t261_0 P, o262_0 P, t263_0 P, t264_0 P, t265_0 P, t266_0 P, t267_0 P, t268_0 P, o269_0 P, t270_0 P, t271_0 P, t272_0 P, t273_0 P, t274_0 P, t275_0 P, o276_0 P, t277_0 P, t278_0 P, t279_0 P, t280_0 P, t281_0 P, t282_0 P, o283_0 P, t284_0 P, t285_0 P, t286_0 P, t287_0 P, t288_0 P, t289_0 P, o290_0 P, t291_0 P, t292_0 P, t293_0 P, t294_0 P, t295_0 P, t296_0 P, o297_0 P, t298_0 P, t299_0 P, t300_0 P, t301_0 P, t302_0 P, t303_0 P, o304_0 P, t305_0 P, t306_0 P, t307_0 P, t308_0 P, t309_0 P, t310_0 P, o311_0 P, t312_0 P, t313_0 P, t314_0 P, t315_0 P, t316_0 P, t317_0 P, o318_0 P, t319_0 P, t320_0 P, t321_0 P, t322_0 P, t323_0 P, t324_0 P, o325_0 P, t326_0 P, t327_0 P, t328_0 P, t329_0 P, t330_0 P, t331_0 P, o332_0 P, t333_0 P, t334_0 P, t335_0 P, t336_0 P, t337_0 P, t338_0 P, o339_0 P, t340_0 P, t341_0 P, t342_0 P, t343_0 P, t344_0 P, t345_0 P, t346_0 P, t347_0 P, t348_0 P, o349_0 P, t350_0 P, t351_0 P, t352_0 P, o353_0 P, t354_0 P, t355_0 P, t356_0 P, t357_0 P, t358_0 P, t359_0 P, o360_0 P, t361_0 P, t362_0 P, t363_0 P, t364_0 P, t365_0 P, t366_0 P, o367_0 P, t368_0 P, t369_0 P, t370_0 P, t371_0 P, t372_0 P, t373_0 P, t374_0 P, t375_0 P, t376_0 P, t377_0 P, t378_0 P, t379_0 P, t380_0 P, o381_0 P, t382_0 P, t383_0 P, t384_0 P, t385_0 P, t386_0 P, t387_0 P, o388_0 P, t389_0 P, t390_0 P, t391_0 P, t392_0 P, t393_0 P, t394_0 P, o395_0 P, t396_0 P, t397_0 P, t398_0 P, t399_0 P, t400_0 P, t401_0 P, o402_0 P, t403_0 P, t404_0 P, t405_0 P, t406_0 P, t407_0 P, t408_0 P, o409_0 P, t410_0 P, t411_0 P, t412_0 P, t413_0 P, t414_0 P, t415_0 P, o416_0 P, t417_0 P, t418_0 P, t419_0 P, t420_0 P, t421_0 P, t422_0 P, o423_0 P, t424_0 P, t425_0 P, t426_0 P, t427_0 P, t428_0 P, t429_0 P, o430_0 P, t431_0 P, t432_0 P, t433_0 P, t434_0 P, t435_0 P, t436_0 P, o437_0 P, t438_0 P, t439_0 P, t440_0 P, t441_0 P, t442_0 P, t443_0 P, o444_0 P, t445_0 P, t446_0 P, t447_0 P, t448_0 P, o449_0 P, t450_0 P, t451_0 P, t452_0 P, t453_0 P, t454_0 P, t455_0 P, o456_0 P, t457_0 P, t458_0 P, t459_0 P, t460_0 P, t461_0 P, t462_0 P, o463_0 P, t464_0 P, t465_0 P, t466_0 P, t467_0 P, o468_0 P, t469_0 P, t470_0 P, t471_0 P, t472_0 P, o473_0 P, t474_0 P, t475_0 P, t476_0 P, t477_0 P, t478_0 P, t479_0 P, o480_0 P, t481_0 P, t482_0 P, t483_0 P, t484_0 P, o485_0 P, t486_0 P, t487_0 P, t488_0 P, t489_0 P, t490_0 P, t491_0 P, o492_0 P, t493_0 P, t494_0 P, t495_0 P, t496_0 P, t497_0 P, t498_0 P, o499_0 P, t500_0 P, t501_0 P, t502_0 P], {}⟩
noncomputable def Lfin : World → OsState → Option Shared := fun w os => topRun treeTable PySem.Challenge.pw_xm0288_01 w 11 ann_ 2 (⟨T12 w.params, 503, {}, Array.mk [], boot_drawn, 1417, os⟩ : SharedT).abs ⟨doneF .next, cE, ⟨471, 0, 490, 53⟩, B_⟩
noncomputable def Rfin : World → OsState → Option Shared := fun w os => some ⟨Hf w.params, Array.mk [], boot_drawn, 1417, os⟩
theorem Pfin : Lfin = Rfin := (by kernel_rfl)
theorem body_eq : behindTheImports PySem.Challenge.pw_xm0288_01 = sts0 ++ (sts1 ++ (sts2 ++ (sts3 ++ (sts4 ++ (sts5 ++ (sts6 ++ (sts7 ++ (sts8 ++ (sts9 ++ (sts10 ++ (sts11 ++ []))))))))))) := by kernel_rfl
-- the run: 7114 + 1 + 12 steps
theorem run (w : World) (os : OsState) : topRun treeTable PySem.Challenge.pw_xm0288_01 w 11 ann_ (12 + (1 + (395 + (367 + (2478 + (1279 + (182 + (427 + (243 + (417 + (387 + (391 + (390 + (156 + 2)))))))))))))) ⟨bh w.params, Array.mk [], boot_drawn, boot_toks, os⟩ (topStub PySem.Challenge.pw_xm0288_01) = some ⟨Hf w.params, Array.mk [], boot_drawn, 1417, os⟩ :=
  go_top (congrFun (congrFun Ppre w) os) (piece_block (q := ⟨0, 0, 0, 0⟩) (congrFun (congrFun Pblock w) os) (body_eq ▸ (piece_app (n := 395) (N := (367 + (2478 + (1279 + (182 + (427 + (243 + (417 + (387 + (391 + (390 + (156 + 2)))))))))))) (q := ⟨0, 0, 0, 0⟩) (segRun_of (congrFun (congrFun Pg0 w) os)) (piece_app (n := 367) (N := (2478 + (1279 + (182 + (427 + (243 + (417 + (387 + (391 + (390 + (156 + 2))))))))))) (q := ⟨0, 0, 0, 0⟩) (segRun_of (congrFun (congrFun Pg1 w) os)) (piece_app (n := 2478) (N := (1279 + (182 + (427 + (243 + (417 + (387 + (391 + (390 + (156 + 2)))))))))) (q := ⟨0, 0, 0, 0⟩) (segRun_of (congrFun (congrFun Pg2 w) os)) (piece_app (n := 1279) (N := (182 + (427 + (243 + (417 + (387 + (391 + (390 + (156 + 2))))))))) (q := ⟨0, 0, 0, 0⟩) (segRun_of (congrFun (congrFun Pg3 w) os)) (piece_app (n := 182) (N := (427 + (243 + (417 + (387 + (391 + (390 + (156 + 2)))))))) (q := ⟨0, 0, 0, 0⟩) (segRun_of (congrFun (congrFun Pg4 w) os)) (piece_app (n := 427) (N := (243 + (417 + (387 + (391 + (390 + (156 + 2))))))) (q := ⟨0, 0, 0, 0⟩) (segRun_of (congrFun (congrFun Pg5 w) os)) (piece_app (n := 243) (N := (417 + (387 + (391 + (390 + (156 + 2)))))) (q := ⟨0, 0, 0, 0⟩) (segRun_of (congrFun (congrFun Pg6 w) os)) (piece_app (n := 417) (N := (387 + (391 + (390 + (156 + 2))))) (q := ⟨0, 0, 0, 0⟩) (segRun_of (congrFun (congrFun Pg7 w) os)) (piece_app (n := 387) (N := (391 + (390 + (156 + 2)))) (q := ⟨0, 0, 0, 0⟩) (segRun_of (congrFun (congrFun Pg8 w) os)) (piece_app (n := 391) (N := (390 + (156 + 2))) (q := ⟨0, 0, 0, 0⟩) (segRun_of (congrFun (congrFun Pg9 w) os)) (piece_app (n := 390) (N := (156 + 2)) (q := ⟨0, 0, 0, 0⟩) (segRun_of (congrFun (congrFun Pg10 w) os)) (piece_app (n := 156) (N := 2) (q := ⟨0, 0, 0, 0⟩) (segRun_of (congrFun (congrFun Pg11 w) os)) (congrFun (congrFun Pfin w) os)))))))))))))))
end Mine.Hd
end
open PySem PySem.W PySem.Calls PyProof.Rows
set_option Elab.async false
set_option maxRecDepth 100000
set_option maxHeartbeats 8000000
set_option linter.unusedVariables false
noncomputable section
namespace Mine.Hd
noncomputable def loose_ : List Str := [(Str.ofString "_wall"), (Str.ofString "OP_LDC_I4"), (Str.ofString "OP_BR"), (Str.ofString "OP_SWITCH"), (Str.ofString "OP_CALLVIRT"), (Str.ofString "OP_LDELEMA"), (Str.ofString "OP_LEAVE"), (Str.ofString "OP_LDARG"), (Str.ofString "OP_LDARGA"), (Str.ofString "OP_STARG"), (Str.ofString "OP_LDLOC"), (Str.ofString "OP_LDLOCA"), (Str.ofString "OP_STLOC"), (Str.ofString "OP_CONSTRAINED"), (Str.ofString "OP_READONLY"), (Str.ofString "RuneError"), (Str.ofString "BadCode"), (Str.ofString "SO_NONE"), (Str.ofString "SO_I4"), (Str.ofString "SO_I8"), (Str.ofString "SO_ARG"), (Str.ofString "SO_LOCAL"), (Str.ofString "SO_BRANCH"), (Str.ofString "SO_SWITCH"), (Str.ofString "SO_KIND"), (Str.ofString "SO_FIELD"), (Str.ofString "SO_METHOD"), (Str.ofString "SO_TEXT"), (Str.ofString "SO_TOKEN"), (Str.ofString "SF_FIXED"), (Str.ofString "SF_U8"), (Str.ofString "SF_I8"), (Str.ofString "SF_JUMP"), (Str.ofString "OP_SORT"), (Str.ofString "SHORT"), (Str.ofString "SHORT_BYTE"), (Str.ofString "SHORT_RUN"), (Str.ofString "SHORT_ELEM"), (Str.ofString "op_sort"), (Str.ofString "op_size"), (Str.ofString "is_branch"), (Str.ofString "targets"), (Str.ofString "prefix_goal"), (Str.ofString "jump_octet"), (Str.ofString "short_form"), (Str.ofString "MOST_INDEX"), (Str.ofString "MOST_TOKEN"), (Str.ofString "TWO_OCTETS"), (Str.ofString "Tokens"), (Str.ofString "token_at"), (Str.ofString "ref_key"), (Str.ofString "fits_sort"), (Str.ofString "check_code"), (Str.ofString "il_check_index"), (Str.ofString "check_signed"), (Str.ofString "form_of"), (Str.ofString "sized_form"), (Str.ofString "form_size"), (Str.ofString "offsets_of"), (Str.ofString "too_far"), (Str.ofString "il_settle"), (Str.ofString "il_put_number"), (Str.ofString "put_head"), (Str.ofString "put_form"), (Str.ofString "encode"), (Str.ofString "CodeIn"), (Str.ofString "il_read_ins"), (Str.ofString "il_read_short"), (Str.ofString "il_read_operand"), (Str.ofString "read_switch"), (Str.ofString "places_of"), (Str.ofString "goal_at"), (Str.ofString "place_targets"), (Str.ofString "decode"), (Str.ofString "_law_draw"), (Str.ofString "_law_little"), (Str.ofString "_law_fill"), (Str.ofString "_law_ladder"), (Str.ofString "_law_grown"), (Str.ofString "_law_goal"), (Str.ofString "_law_zone"), (Str.ofString "_law_code"), (Str.ofString "_law_plain"), (Str.ofString "_law_lay")]
noncomputable def KL : Params → Frag := fun P => [(0, t0_0 P), (1, boot_o_1 P), (2, t2_0 P), (3, t3_11 P), (4, boot_o_4 P), (5, boot_o_5 P), (6, boot_o_6 P), (7, boot_o_7 P), (8, boot_o_8 P), (9, boot_o_9 P), (10, boot_o_10 P), (11, t11_0 P), (12, o12_8 P), (13, t13_0 P), (14, t14_0 P), (15, t15_0 P), (16, o16_0 P), (17, t17_0 P), (18, t18_0 P), (19, t19_0 P), (20, t20_0 P), (21, t21_0 P), (22, t22_0 P), (23, t23_0 P), (24, t24_0 P), (25, t25_0 P), (26, o26_0 P), (27, t27_0 P), (28, t28_0 P), (29, t29_0 P), (30, o30_0 P), (31, t31_0 P), (32, t32_0 P), (33, t33_0 P), (34, t34_0 P), (35, t35_0 P), (36, t36_0 P), (37, t37_0 P), (38, t38_1 P), (39, t39_0 P), (40, t40_0 P), (41, t41_0 P), (42, t42_0 P), (43, t43_0 P), (44, t44_0 P), (45, t45_0 P), (46, o46_0 P), (47, t47_0 P), (48, t48_0 P), (49, t49_0 P), (50, t50_0 P), (51, t51_0 P), (52, t52_0 P), (53, t53_0 P), (54, t54_0 P), (55, t55_0 P), (56, t56_0 P), (57, t57_0 P), (58, t58_0 P), (59, t59_0 P), (60, t60_0 P), (61, t61_0 P), (62, t62_0 P), (63, t63_0 P), (64, t64_0 P), (65, t65_0 P), (66, t66_0 P), (67, t67_0 P), (68, t68_0 P), (69, t69_0 P), (70, t70_0 P), (71, t71_0 P), (72, t72_0 P), (73, t73_0 P), (74, t74_0 P), (75, t75_0 P), (76, t76_0 P), (77, t77_0 P), (78, t78_0 P), (79, t79_0 P), (80, t80_0 P), (81, t81_0 P), (82, t82_0 P), (83, t83_0 P), (84, t84_0 P), (85, t85_0 P), (86, t86_0 P), (87, t87_0 P), (88, t88_0 P), (89, t89_0 P), (90, t90_0 P), (91, t91_0 P), (92, t92_0 P), (93, t93_0 P), (94, t94_0 P), (95, t95_0 P), (96, t96_0 P), (97, t97_0 P), (98, t98_0 P), (99, t99_0 P), (100, t100_0 P), (101, t101_0 P), (102, t102_0 P), (103, t103_0 P), (104, t104_0 P), (105, t105_0 P), (106, t106_0 P), (107, t107_0 P), (108, t108_0 P), (109, t109_0 P), (110, t110_0 P), (111, t111_0 P), (112, t112_0 P), (113, t113_0 P), (114, t114_0 P), (115, t115_0 P), (116, t116_0 P), (117, t117_0 P), (118, t118_0 P), (119, t119_0 P), (120, t120_0 P), (121, t121_0 P), (122, t122_0 P), (123, t123_0 P), (124, t124_0 P), (125, t125_0 P), (126, t126_0 P), (127, t127_0 P), (128, t128_0 P), (129, t129_0 P), (130, t130_0 P), (131, t131_0 P), (132, t132_0 P), (133, t133_0 P), (134, t134_0 P), (135, t135_0 P), (136, t136_0 P), (137, t137_0 P), (138, t138_0 P), (139, t139_0 P), (140, t140_0 P), (141, t141_0 P), (142, t142_0 P), (143, o143_0 P), (144, t144_0 P), (145, t145_0 P), (146, t146_0 P), (147, t147_0 P), (148, t148_0 P), (149, t149_0 P), (150, o150_0 P), (151, t151_0 P), (152, t152_0 P), (153, t153_0 P), (154, t154_0 P), (155, t155_0 P), (156, t156_0 P), (157, o157_0 P), (158, t158_0 P), (159, t159_0 P), (160, t160_0 P), (161, t161_0 P), (162, t162_0 P), (163, t163_0 P), (164, o164_0 P), (165, t165_0 P), (166, t166_0 P), (167, t167_0 P), (168, t168_0 P), (169, t169_0 P), (170, t170_0 P), (171, o171_0 P), (172, t172_0 P), (173, t173_0 P), (174, t174_0 P), (175, t175_0 P), (176, t176_0 P), (177, t177_0 P), (178, o178_0 P), (179, t179_0 P), (180, t180_0 P), (181, t181_0 P), (182, t182_0 P), (183, t183_0 P), (184, t184_0 P), (185, o185_0 P), (186, t186_0 P), (187, t187_0 P), (188, t188_0 P), (189, t189_0 P), (190, t190_0 P), (191, t191_0 P), (192, t192_0 P), (193, t193_0 P), (194, t194_0 P), (195, o195_0 P), (196, t196_0 P), (197, t197_0 P), (198, t198_0 P), (199, o199_0 P), (200, t200_0 P), (201, t201_0 P), (202, t202_0 P), (203, t203_0 P), (204, t204_0 P), (205, t205_0 P), (206, o206_0 P), (207, t207_0 P), (208, t208_0 P), (209, t209_0 P), (210, t210_0 P), (211, t211_0 P), (212, t212_0 P), (213, o213_0 P), (214, t214_0 P), (215, t215_0 P), (216, t216_0 P), (217, t217_0 P), (218, t218_0 P), (219, t219_0 P), (220, o220_0 P), (221, t221_0 P), (222, t222_0 P), (223, t223_0 P), (224, t224_0 P), (225, t225_0 P), (226, t226_0 P), (227, t227_0 P), (228, t228_0 P), (229, t229_0 P), (230, t230_0 P), (231, t231_0 P), (232, t232_0 P), (233, t233_0 P), (234, o234_0 P), (235, t235_0 P), (236, t236_0 P), (237, t237_0 P), (238, t238_0 P), (239, t239_0 P), (240, t240_0 P), (241, o241_0 P), (242, t242_0 P), (243, t243_0 P), (244, t244_0 P), (245, t245_0 P), (246, t246_0 P), (247, t247_0 P), (248, o248_0 P), (249, t249_0 P), (250, t250_0 P), (251, t251_0 P), (252, t252_0 P), (253, t253_0 P), (254, t254_0 P), (255, o255_0 P), (256, t256_0 P), (257, t257_0 P), (258, t258_0 P), (259, t259_0 P), (260, t260_0 P), (261, t261_0 P), (262, o262_0 P), (263, t263_0 P), (264, t264_0 P), (265, t265_0 P), (266, t266_0 P), (267, t267_0 P), (268, t268_0 P), (269, o269_0 P), (270, t270_0 P), (271, t271_0 P), (272, t272_0 P), (273, t273_0 P), (274, t274_0 P), (275, t275_0 P), (276, o276_0 P), (277, t277_0 P), (278, t278_0 P), (279, t279_0 P), (280, t280_0 P), (281, t281_0 P), (282, t282_0 P), (283, o283_0 P), (284, t284_0 P), (285, t285_0 P), (286, t286_0 P), (287, t287_0 P), (288, t288_0 P), (289, t289_0 P), (290, o290_0 P), (291, t291_0 P), (292, t292_0 P), (293, t293_0 P), (294, t294_0 P), (295, t295_0 P), (296, t296_0 P), (297, o297_0 P), (298, t298_0 P), (299, t299_0 P), (300, t300_0 P), (301, t301_0 P), (302, t302_0 P), (303, t303_0 P), (304, o304_0 P), (305, t305_0 P), (306, t306_0 P), (307, t307_0 P), (308, t308_0 P), (309, t309_0 P), (310, t310_0 P), (311, o311_0 P), (312, t312_0 P), (313, t313_0 P), (314, t314_0 P), (315, t315_0 P), (316, t316_0 P), (317, t317_0 P), (318, o318_0 P), (319, t319_0 P), (320, t320_0 P), (321, t321_0 P), (322, t322_0 P), (323, t323_0 P), (324, t324_0 P), (325, o325_0 P), (326, t326_0 P), (327, t327_0 P), (328, t328_0 P), (329, t329_0 P), (330, t330_0 P), (331, t331_0 P), (332, o332_0 P), (333, t333_0 P), (334, t334_0 P), (335, t335_0 P), (336, t336_0 P), (337, t337_0 P), (338, t338_0 P), (339, o339_0 P), (340, t340_0 P), (341, t341_0 P), (342, t342_0 P), (343, t343_0 P), (344, t344_0 P), (345, t345_0 P), (346, t346_0 P), (347, t347_0 P), (348, t348_0 P), (349, o349_0 P), (350, t350_0 P), (351, t351_0 P), (352, t352_0 P), (353, o353_0 P), (354, t354_0 P), (355, t355_0 P), (356, t356_0 P), (357, t357_0 P), (358, t358_0 P), (359, t359_0 P), (360, o360_0 P), (361, t361_0 P), (362, t362_0 P), (363, t363_0 P), (364, t364_0 P), (365, t365_0 P), (366, t366_0 P), (367, o367_0 P), (368, t368_0 P), (369, t369_0 P), (370, t370_0 P), (371, t371_0 P), (372, t372_0 P), (373, t373_0 P), (374, t374_0 P), (375, t375_0 P), (376, t376_0 P), (377, t377_0 P), (378, t378_0 P), (379, t379_0 P), (380, t380_0 P), (381, o381_0 P), (382, t382_0 P), (383, t383_0 P), (384, t384_0 P), (385, t385_0 P), (386, t386_0 P), (387, t387_0 P), (388, o388_0 P), (389, t389_0 P), (390, t390_0 P), (391, t391_0 P), (392, t392_0 P), (393, t393_0 P), (394, t394_0 P), (395, o395_0 P), (396, t396_0 P), (397, t397_0 P), (398, t398_0 P), (399, t399_0 P), (400, t400_0 P), (401, t401_0 P), (402, o402_0 P), (403, t403_0 P), (404, t404_0 P), (405, t405_0 P), (406, t406_0 P), (407, t407_0 P), (408, t408_0 P), (409, o409_0 P), (410, t410_0 P), (411, t411_0 P), (412, t412_0 P), (413, t413_0 P), (414, t414_0 P), (415, t415_0 P), (416, o416_0 P), (417, t417_0 P), (418, t418_0 P), (419, t419_0 P), (420, t420_0 P), (421, t421_0 P), (422, t422_0 P), (423, o423_0 P), (424, t424_0 P), (425, t425_0 P), (426, t426_0 P), (427, t427_0 P), (428, t428_0 P), (429, t429_0 P), (430, o430_0 P), (431, t431_0 P), (432, t432_0 P), (433, t433_0 P), (434, t434_0 P), (435, t435_0 P), (436, t436_0 P), (437, o437_0 P), (438, t438_0 P), (439, t439_0 P), (440, t440_0 P), (441, t441_0 P), (442, t442_0 P), (443, t443_0 P), (444, o444_0 P), (445, t445_0 P), (446, t446_0 P), (447, t447_0 P), (448, t448_0 P), (449, o449_0 P), (450, t450_0 P), (451, t451_0 P), (452, t452_0 P), (453, t453_0 P), (454, t454_0 P), (455, t455_0 P), (456, o456_0 P), (457, t457_0 P), (458, t458_0 P), (459, t459_0 P), (460, t460_0 P), (461, t461_0 P), (462, t462_0 P), (463, o463_0 P), (464, t464_0 P), (465, t465_0 P), (466, t466_0 P), (467, t467_0 P), (468, o468_0 P), (469, t469_0 P), (470, t470_0 P), (471, t471_0 P), (472, t472_0 P), (473, o473_0 P), (474, t474_0 P), (475, t475_0 P), (476, t476_0 P), (477, t477_0 P), (478, t478_0 P), (479, t479_0 P), (480, o480_0 P), (481, t481_0 P), (482, t482_0 P), (483, t483_0 P), (484, t484_0 P), (485, o485_0 P), (486, t486_0 P), (487, t487_0 P), (488, t488_0 P), (489, t489_0 P), (490, t490_0 P), (491, t491_0 P), (492, o492_0 P), (493, t493_0 P), (494, t494_0 P), (495, t495_0 P), (496, t496_0 P), (497, t497_0 P), (498, t498_0 P), (499, o499_0 P), (500, t500_0 P), (501, t501_0 P), (502, t502_0 P)]
noncomputable def as_ : List Addr := [0, 1, 2, 3, 4, 5, 6, 7, 8, 9, 10, 11, 12, 13, 14, 15, 16, 17, 18, 19, 20, 21, 22, 23, 24, 25, 26, 27, 28, 29, 30, 31, 32, 33, 34, 35, 36, 37, 38, 39, 40, 41, 42, 43, 44, 45, 46, 47, 48, 49, 50, 51, 52, 53, 54, 55, 56, 57, 58, 59, 60, 61, 62, 63, 64, 65, 66, 67, 68, 69, 70, 71, 72, 73, 74, 75, 76, 77, 78, 79, 80, 81, 82, 83, 84, 85, 86, 87, 88, 89, 90, 91, 92, 93, 94, 95, 96, 97, 98, 99, 100, 101, 102, 103, 104, 105, 106, 107, 108, 109, 110, 111, 112, 113, 114, 115, 116, 117, 118, 119, 120, 121, 122, 123, 124, 125, 126, 127, 128, 129, 130, 131, 132, 133, 134, 135, 136, 137, 138, 139, 140, 141, 142, 143, 144, 145, 146, 147, 148, 149, 150, 151, 152, 153, 154, 155, 156, 157, 158, 159, 160, 161, 162, 163, 164, 165, 166, 167, 168, 169, 170, 171, 172, 173, 174, 175, 176, 177, 178, 179, 180, 181, 182, 183, 184, 185, 186, 187, 188, 189, 190, 191, 192, 193, 194, 195, 196, 197, 198, 199, 200, 201, 202, 203, 204, 205, 206, 207, 208, 209, 210, 211, 212, 213, 214, 215, 216, 217, 218, 219, 220, 221, 222, 223, 224, 225, 226, 227, 228, 229, 230, 231, 232, 233, 234, 235, 236, 237, 238, 239, 240, 241, 242, 243, 244, 245, 246, 247, 248, 249, 250, 251, 252, 253, 254, 255, 256, 257, 258, 259, 260, 261, 262, 263, 264, 265, 266, 267, 268, 269, 270, 271, 272, 273, 274, 275, 276, 277, 278, 279, 280, 281, 282, 283, 284, 285, 286, 287, 288, 289, 290, 291, 292, 293, 294, 295, 296, 297, 298, 299, 300, 301, 302, 303, 304, 305, 306, 307, 308, 309, 310, 311, 312, 313, 314, 315, 316, 317, 318, 319, 320, 321, 322, 323, 324, 325, 326, 327, 328, 329, 330, 331, 332, 333, 334, 335, 336, 337, 338, 339, 340, 341, 342, 343, 344, 345, 346, 347, 348, 349, 350, 351, 352, 353, 354, 355, 356, 357, 358, 359, 360, 361, 362, 363, 364, 365, 366, 367, 368, 369, 370, 371, 372, 373, 374, 375, 376, 377, 378, 379, 380, 381, 382, 383, 384, 385, 386, 387, 388, 389, 390, 391, 392, 393, 394, 395, 396, 397, 398, 399, 400, 401, 402, 403, 404, 405, 406, 407, 408, 409, 410, 411, 412, 413, 414, 415, 416, 417, 418, 419, 420, 421, 422, 423, 424, 425, 426, 427, 428, 429, 430, 431, 432, 433, 434, 435, 436, 437, 438, 439, 440, 441, 442, 443, 444, 445, 446, 447, 448, 449, 450, 451, 452, 453, 454, 455, 456, 457, 458, 459, 460, 461, 462, 463, 464, 465, 466, 467, 468, 469, 470, 471, 472, 473, 474, 475, 476, 477, 478, 479, 480, 481, 482, 483, 484, 485, 486, 487, 488, 489, 490, 491, 492, 493, 494, 495, 496, 497, 498, 499, 500, 501, 502]
theorem q0 : t0_0 = o0_0 := rfl
theorem q3 : t3_11 = o3_11 := rfl
theorem q54 : t54_0 = o54_0 := rfl
theorem q62 : t62_0 = o62_0 := rfl
theorem q122 : t122_0 = o122_0 := rfl
theorem q123 : t123_0 = o123_0 := rfl
theorem q128 : t128_0 = o128_0 := rfl
theorem q147 : t147_0 = o147_0 := rfl
theorem q148 : t148_0 = o148_0 := rfl
theorem q154 : t154_0 = o154_0 := rfl
theorem q155 : t155_0 = o155_0 := rfl
theorem q161 : t161_0 = o161_0 := rfl
theorem q162 : t162_0 = o162_0 := rfl
theorem q168 : t168_0 = o168_0 := rfl
theorem q169 : t169_0 = o169_0 := rfl
theorem q175 : t175_0 = o175_0 := rfl
theorem q176 : t176_0 = o176_0 := rfl
theorem q182 : t182_0 = o182_0 := rfl
theorem q183 : t183_0 = o183_0 := rfl
theorem q189 : t189_0 = o189_0 := rfl
theorem q190 : t190_0 = o190_0 := rfl
theorem q203 : t203_0 = o203_0 := rfl
theorem q204 : t204_0 = o204_0 := rfl
theorem q259 : t259_0 = o259_0 := rfl
theorem q260 : t260_0 = o260_0 := rfl
theorem q266 : t266_0 = o266_0 := rfl
theorem q267 : t267_0 = o267_0 := rfl
theorem q273 : t273_0 = o273_0 := rfl
theorem q274 : t274_0 = o274_0 := rfl
theorem q280 : t280_0 = o280_0 := rfl
theorem q281 : t281_0 = o281_0 := rfl
theorem q287 : t287_0 = o287_0 := rfl
theorem q288 : t288_0 = o288_0 := rfl
theorem q294 : t294_0 = o294_0 := rfl
theorem q295 : t295_0 = o295_0 := rfl
theorem q301 : t301_0 = o301_0 := rfl
theorem q302 : t302_0 = o302_0 := rfl
theorem q308 : t308_0 = o308_0 := rfl
theorem q309 : t309_0 = o309_0 := rfl
theorem q315 : t315_0 = o315_0 := rfl
theorem q316 : t316_0 = o316_0 := rfl
theorem q322 : t322_0 = o322_0 := rfl
theorem q323 : t323_0 = o323_0 := rfl
theorem q329 : t329_0 = o329_0 := rfl
theorem q330 : t330_0 = o330_0 := rfl
theorem q336 : t336_0 = o336_0 := rfl
theorem q337 : t337_0 = o337_0 := rfl
theorem q343 : t343_0 = o343_0 := rfl
theorem q344 : t344_0 = o344_0 := rfl
theorem q357 : t357_0 = o357_0 := rfl
theorem q358 : t358_0 = o358_0 := rfl
theorem q364 : t364_0 = o364_0 := rfl
theorem q365 : t365_0 = o365_0 := rfl
theorem q371 : t371_0 = o371_0 := rfl
theorem q372 : t372_0 = o372_0 := rfl
theorem q385 : t385_0 = o385_0 := rfl
theorem q386 : t386_0 = o386_0 := rfl
theorem q392 : t392_0 = o392_0 := rfl
theorem q393 : t393_0 = o393_0 := rfl
theorem q399 : t399_0 = o399_0 := rfl
theorem q400 : t400_0 = o400_0 := rfl
theorem q406 : t406_0 = o406_0 := rfl
theorem q407 : t407_0 = o407_0 := rfl
theorem q413 : t413_0 = o413_0 := rfl
theorem q414 : t414_0 = o414_0 := rfl
theorem q420 : t420_0 = o420_0 := rfl
theorem q421 : t421_0 = o421_0 := rfl
theorem q427 : t427_0 = o427_0 := rfl
theorem q428 : t428_0 = o428_0 := rfl
theorem q434 : t434_0 = o434_0 := rfl
theorem q435 : t435_0 = o435_0 := rfl
theorem q441 : t441_0 = o441_0 := rfl
theorem q442 : t442_0 = o442_0 := rfl
theorem q446 : t446_0 = o446_0 := rfl
theorem q447 : t447_0 = o447_0 := rfl
theorem q453 : t453_0 = o453_0 := rfl
theorem q454 : t454_0 = o454_0 := rfl
theorem q460 : t460_0 = o460_0 := rfl
theorem q461 : t461_0 = o461_0 := rfl
theorem q465 : t465_0 = o465_0 := rfl
theorem q466 : t466_0 = o466_0 := rfl
theorem q470 : t470_0 = o470_0 := rfl
theorem q471 : t471_0 = o471_0 := rfl
theorem q477 : t477_0 = o477_0 := rfl
theorem q478 : t478_0 = o478_0 := rfl
theorem q482 : t482_0 = o482_0 := rfl
theorem q483 : t483_0 = o483_0 := rfl
theorem q489 : t489_0 = o489_0 := rfl
theorem q490 : t490_0 = o490_0 := rfl
theorem q496 : t496_0 = o496_0 := rfl
theorem q497 : t497_0 = o497_0 := rfl
theorem q501 : t501_0 = o501_0 := rfl
theorem q502 : t502_0 = o502_0 := rfl
end Mine.Hd
end
open PySem PySem.W PySem.Calls PyProof.Rows
set_option Elab.async false
set_option maxRecDepth 100000
set_option maxHeartbeats 8000000
set_option linter.unusedVariables false
noncomputable section
namespace Mine.Hd
abbrev pw : Program := PySem.Challenge.pw_xm0288_01
noncomputable def q_ : Program := { pw with main := { pw.main with body := [st 88] } }
noncomputable def Xt_ : Shared → Bool := fun _ => true
abbrev gs_ : Array GenState := Array.mk []
abbrev NN : Nat := 20000
noncomputable def Lsize : World → Bool × Nat × Option Value := fun w => ((bh w.params).isNs mainGlobals && gs_.size == 0, (bh w.params).objs.size, (bh w.params).nsMap mainGlobals "__annotations__")
noncomputable def Rsize : World → Bool × Nat × Option Value := fun _ => (true, 11, ann_)
noncomputable def LA : World → OsState → Bool := fun w os => (staticsOk (importedModules pw.main.body) (bh w.params) (Hf w.params) && namesBound pw (Hf w.params) && gensDone ⟨Hf w.params, gs_, boot_drawn, 1417, os⟩ && laidKept (bh w.params) (Hf w.params))
noncomputable def RA : World → OsState → Bool := fun _ _ => true
noncomputable def LB := fun (w : World) (os : OsState) => openSeen q_ loose_ (importedModules pw.main.body) Xt_ true ⟨Hf w.params, gs_, boot_drawn, 1417, os⟩
noncomputable def RB := fun (w : World) (os : OsState) => openGood q_ loose_
theorem Psize : Lsize = Rsize := (by kernel_rfl)
theorem PA : LA = RA := (by kernel_rfl)
theorem PB : LB = RB := (by kernel_rfl)
theorem open_ : ∀ w : World, (fencedOpening treeTable pw w NN).map (fun s => (s.heap, s.gens, s.drawn, s.toks)) = some (bh w.params, Array.mk [], boot_drawn, boot_toks) := fun w => by
  have h := boot_open (p := pw) (N := NN) (by kernel_rfl) (by decide) (fun s => by rfl) w
  rw [boot_eq] at h
  exact h
noncomputable def obs_ (s : Shared) : List (Option Obj) := as_.map s.heap.get?
noncomputable def val_ (w : World) : List (Option Obj) := (KL w.params).map fun p => some p.2
theorem PC (w : World) (os : OsState) : obs_ ⟨Hf w.params, gs_, boot_drawn, 1417, os⟩ = val_ w := by kernel_rfl
theorem left : LeftO pw q_ loose_ Xt_ obs_ val_ NN true :=
  LeftO.of_pieces (H₀ := bh) (H₁ := Hf) (gs₀ := gs_) (gs₁ := gs_) (d₀ := boot_drawn) (d₁ := boot_drawn) (k₀ := boot_toks) (k₁ := 1417) (m₀ := 11) (ann := ann_) open_
    (fun w => congrFun Psize w) (fun w os => run w os) (by decide) fun w => by
      funext os
      exact Prod.ext (congrFun (congrFun PA w) os) (Prod.ext (congrFun (congrFun PB w) os) (PC w os))
end Mine.Hd
end
open PySem PySem.W PySem.Calls PyProof.Rows
set_option Elab.async false
set_option maxRecDepth 100000
set_option linter.unusedVariables false
set_option genSizeOf false
set_option genInjectivity false
namespace Mine
/-! ## mini values -/
inductive MV where
  | none | bool (b : Bool) | int (i : Int) | bytes (b : Array UInt8)
  | tup (xs : List MV) | list (xs : List MV) | imap (f : Int → Option MV) | rng (n : Int)
  | ref (a : Addr) | ext (v : Value)
abbrev FMap := Addr → Option Obj
def FLe (Φ Ψ : FMap) : Prop := ∀ a o, Φ a = some o → Ψ a = some o
theorem FLe.refl (Φ : FMap) : FLe Φ Φ := fun _ _ e => e
theorem FLe.trans {Φ Ψ Χ : FMap} (x : FLe Φ Ψ) (y : FLe Ψ Χ) : FLe Φ Χ := fun a o e => y a o (x a o e)
structure MapO (o : Obj) (es : Array DictEntry) : Prop where
  ex : o.ExactDict
  dat : ∃ ep, o.data = .dict es ep
  keys : IntKeys es
  sz : es.size ≤ sizeLine
mutual
inductive Rep (Φ : FMap) : MV → Value → Prop
  | none : Rep Φ .none .none
  | bool (b : Bool) : Rep Φ (.bool b) (.bool b)
  | int (i : Int) (t : Tok) : Rep Φ (.int i) (.int i t)
  | bytes (b : Array UInt8) (t : Tok) : b.size ≤ sizeLine → Rep Φ (.bytes b) (.bytes b t)
  | tup {xs : List MV} {vs : List Value} {a : Addr} {o : Obj} {n : Nat} : Φ a = some o → o = { cls := .type "tuple", data := .seq vs.toArray n } → o.data = .seq vs.toArray n → vs.length ≤ sizeLine → Reps Φ xs vs → Rep Φ (.tup xs) (.ref a)
  | list {xs : List MV} {vs : List Value} {a : Addr} {o : Obj} {n : Nat} : Φ a = some o → o = { cls := .type "list", data := .seq vs.toArray n } → o.data = .seq vs.toArray n → vs.length ≤ sizeLine → Reps Φ xs vs → Rep Φ (.list xs) (.ref a)
  | imap {f : Int → Option MV} {g : Int → Value} {a : Addr} {o : Obj} {es : Array DictEntry} : Φ a = some o → ((a == sysModules) = false ∧ MapO o es) → (∀ k, f k = none → findBy Value.isInt es k = none) →
      (∀ k m, f k = some m → findBy Value.isInt es k = some (g k)) → (∀ k m, f k = some m → Rep Φ m (g k)) → Rep Φ (.imap f) (.ref a)
  | rng {n : Int} {a : Addr} {t u v : Tok} : Φ a = some { cls := .type "range", data := .fields #[.int 0 t, .int n u, .int 1 v] } → Rep Φ (.rng n) (.ref a)
  | ref (a : Addr) : Rep Φ (.ref a) (.ref a)
  | ext (v : Value) : Rep Φ (.ext v) v
inductive Reps (Φ : FMap) : List MV → List Value → Prop
  | nil : Reps Φ [] []
  | cons {m : MV} {v : Value} {ms : List MV} {vs : List Value} : Rep Φ m v → Reps Φ ms vs → Reps Φ (m :: ms) (v :: vs)
end
theorem Rep.inv_int {Φ : FMap} {i : Int} {u : Value} (h : Rep Φ (.int i) u) : ∃ t, u = .int i t := by cases h; exact ⟨_, rfl⟩
theorem Rep.inv_bool {Φ : FMap} {b : Bool} {u : Value} (h : Rep Φ (.bool b) u) : u = .bool b := by cases h; rfl
theorem Rep.inv_none {Φ : FMap} {u : Value} (h : Rep Φ .none u) : u = .none := by cases h; rfl
theorem Rep.inv_ref {Φ : FMap} {a : Addr} {u : Value} (h : Rep Φ (.ref a) u) : u = .ref a := by cases h; rfl
theorem Rep.mono {Φ Ψ : FMap} (le : FLe Φ Ψ) {m : MV} {v : Value} (h : Rep Φ m v) : Rep Ψ m v :=
  Rep.rec (motive_1 := fun m v _ => Rep Ψ m v) (motive_2 := fun ms vs _ => Reps Ψ ms vs) .none .bool .int .bytes (fun a b c d _ e => .tup (le _ _ a) b c d e) (fun a b c d _ e => .list (le _ _ a) b c d e)
    (fun a b c d _ e => .imap (le _ _ a) b c d e) (fun a => .rng (le _ _ a)) .ref .ext .nil (fun _ _ a b => .cons a b) h
theorem Reps.ind {Φ : FMap} {C : List MV → List Value → Prop} (h0 : C [] []) (h1 : ∀ m v ms vs, Rep Φ m v → Reps Φ ms vs → C ms vs → C (m :: ms) (v :: vs)) {ms : List MV} {vs : List Value} (h : Reps Φ ms vs) : C ms vs :=
  Reps.rec (motive_1 := fun _ _ _ => True) (motive_2 := fun ms vs _ => C ms vs) trivial (fun _ => trivial) (fun _ _ => trivial) (fun _ _ _ => trivial) (fun _ _ _ _ _ _ => trivial) (fun _ _ _ _ _ _ => trivial) (fun _ _ _ _ _ _ => trivial) (fun _ => trivial) (fun _ => trivial) (fun _ => trivial)
    h0 (fun a b _ ih => h1 _ _ _ _ a b ih) h
theorem Reps.mono {Φ Ψ : FMap} (le : FLe Φ Ψ) {ms : List MV} {vs : List Value} (h : Reps Φ ms vs) : Reps Ψ ms vs := h.ind (C := fun ms vs => Reps Ψ ms vs) .nil fun _ _ _ _ a _ ih => .cons (a.mono le) ih
theorem Reps.length {Φ : FMap} {ms : List MV} {vs : List Value} (h : Reps Φ ms vs) : vs.length = ms.length := h.ind (C := fun ms vs => vs.length = ms.length) rfl fun _ _ _ _ _ _ ih => congrArg (· + 1) ih
theorem Reps.get {Φ : FMap} {ms : List MV} {vs : List Value} (h : Reps Φ ms vs) : ∀ {i : Nat} {m : MV}, ms[i]? = some m → ∃ v, vs[i]? = some v ∧ Rep Φ m v :=
  h.ind (C := fun ms vs => ∀ {i : Nat} {m : MV}, ms[i]? = some m → ∃ v, vs[i]? = some v ∧ Rep Φ m v) (fun e => by cases e) fun m v ms vs a _ ih i m' e => match i, e with
    | 0, e => ⟨v, rfl, Option.some.inj (e : some m = some m') ▸ a⟩
    | i + 1, e => ih (i := i) e
theorem Reps.append {Φ : FMap} {ms ms' : List MV} {vs vs' : List Value} (h : Reps Φ ms vs) (h' : Reps Φ ms' vs') : Reps Φ (ms ++ ms') (vs ++ vs') := h.ind (C := fun ms vs => Reps Φ (ms ++ ms') (vs ++ vs')) h' fun _ _ _ _ a _ ih => .cons a ih
theorem Reps.snoc {Φ : FMap} {ms : List MV} {vs : List Value} {m : MV} {v : Value} (r : Reps Φ ms vs) (h : Rep Φ m v) : Reps Φ (ms ++ [m]) (vs ++ [v]) := r.append (.cons h .nil)
theorem Reps.take {Φ : FMap} {ms : List MV} {vs : List Value} (h : Reps Φ ms vs) : ∀ n, Reps Φ (ms.take n) (vs.take n) :=
  h.ind (C := fun ms vs => ∀ n, Reps Φ (ms.take n) (vs.take n)) (fun n => by rw [List.take_nil, List.take_nil]; exact .nil) fun _ _ _ _ a _ ih n => match n with
    | 0 => .nil
    | n + 1 => .cons a (ih n)
theorem Reps.drop {Φ : FMap} {ms : List MV} {vs : List Value} (h : Reps Φ ms vs) : ∀ n, Reps Φ (ms.drop n) (vs.drop n) :=
  h.ind (C := fun ms vs => ∀ n, Reps Φ (ms.drop n) (vs.drop n)) (fun n => by rw [List.drop_nil, List.drop_nil]; exact .nil) fun _ _ _ _ a r ih n => match n with
    | 0 => .cons a r
    | n + 1 => ih n
theorem Reps.reverse {Φ : FMap} {ms : List MV} {vs : List Value} (h : Reps Φ ms vs) : Reps Φ ms.reverse vs.reverse :=
  h.ind (C := fun ms vs => Reps Φ ms.reverse vs.reverse) .nil fun _ _ _ _ a _ ih => by rw [List.reverse_cons, List.reverse_cons]; exact ih.snoc a
theorem Reps.set {Φ : FMap} {ms : List MV} {vs : List Value} {m : MV} {v : Value} (r : Reps Φ ms vs) : ∀ (i : Nat), Rep Φ m v → Reps Φ (ms.set i m) (vs.set i v) :=
  r.ind (C := fun ms vs => ∀ (i : Nat), Rep Φ m v → Reps Φ (ms.set i m) (vs.set i v)) (fun _ _ => .nil) fun _ _ _ _ a r ih i h => match i with
    | 0 => .cons h r
    | i + 1 => .cons a (ih i h)
theorem Reps.replicate {Φ : FMap} {m : MV} {v : Value} (h : Rep Φ m v) (n : Nat) : Reps Φ (List.replicate n m) (List.replicate n v) := by
  induction n with
  | zero => exact .nil
  | succ n ih => exact .cons h ih
theorem Reps.uncons {Φ : FMap} {m : MV} {ms : List MV} {vs : List Value} (h : Reps Φ (m :: ms) vs) : ∃ v vs', vs = v :: vs' ∧ Rep Φ m v ∧ Reps Φ ms vs' := by
  cases h with | cons a b => exact ⟨_, _, rfl, a, b⟩
theorem Reps.zero {Φ : FMap} {vs : List Value} (h : Reps Φ [] vs) : vs = [] := by cases h; rfl
theorem Reps.one {Φ : FMap} {a : MV} {vs : List Value} (h : Reps Φ [a] vs) : ∃ u, vs = [u] ∧ Rep Φ a u := by
  obtain ⟨v, vs, rfl, x, h⟩ := h.uncons
  obtain rfl := h.zero
  exact ⟨v, rfl, x⟩
theorem Reps.two {Φ : FMap} {a b : MV} {vs : List Value} (h : Reps Φ [a, b] vs) : ∃ u v, vs = [u, v] ∧ Rep Φ a u ∧ Rep Φ b v := by
  obtain ⟨v, vs, rfl, x, h⟩ := h.uncons
  obtain ⟨u, rfl, y⟩ := h.one
  exact ⟨v, u, rfl, x, y⟩
theorem Reps.three {Φ : FMap} {a b c : MV} {vs : List Value} (h : Reps Φ [a, b, c] vs) : ∃ u v x, vs = [u, v, x] ∧ Rep Φ a u ∧ Rep Φ b v ∧ Rep Φ c x := by
  obtain ⟨v, vs, rfl, x, h⟩ := h.uncons
  obtain ⟨u, w, rfl, y, z⟩ := h.two
  exact ⟨v, u, w, rfl, x, y, z⟩
/-! ## resources -/
abbrev Loc := List (Str × Option MV)
structure FrS where
  env : Env
  ρ : Loc
  own : List Addr
  γ : List (Str × MV)
  keep : List (Addr × Obj)
inductive Res where
  | list (a : Addr) (xs : List MV)
  | barr (a : Addr) (b : Array UInt8)
  | imap (a : Addr) (f : Int → Option MV) (n : Nat)
  | inst (x dx C : Addr) (kvs : List (Str × MV))
  | fr (f : FrS)
  | raw (a : Addr) (o : Obj)
noncomputable def Res.addrs : Res → List Addr
  | .list a _ => [a]
  | .barr a _ => [a]
  | .imap a _ _ => [a]
  | .inst x dx _ _ => [x, dx]
  | .fr f => f.env.locals :: (f.own ++ f.keep.map (·.1))
  | .raw a _ => [a]
noncomputable abbrev listO (vs : List Value) (n : Nat) : Obj := { cls := .type "list", data := .seq vs.toArray n }
noncomputable abbrev barrO (b : Array UInt8) (e : Nat) : Obj := { cls := .type "bytearray", data := .bytearray b e }
inductive EsRep (Φ : FMap) : List (Str × MV) → List DictEntry → Prop
  | nil : EsRep Φ [] []
  | cons {x : Str} {m : MV} {t : Tok} {hsh : Int} {v : Value} {kvs : List (Str × MV)} {es : List DictEntry} : Rep Φ m v → EsRep Φ kvs es → EsRep Φ ((x, m) :: kvs) (⟨hsh, .str x t, v⟩ :: es)
theorem EsRep.mono {Φ Ψ : FMap} (le : FLe Φ Ψ) {a : List (Str × MV)} {b : List DictEntry} (h : EsRep Φ a b) : EsRep Ψ a b := by
  induction h with
  | nil => exact .nil
  | cons r _ ih => exact .cons (r.mono le) ih
def SlotOk (Φ : FMap) (f : FrS) (h : Heap) (m : Str → Option Value) (x : Str) (ov : Option MV) : Prop :=
  (f.env.kindOf x = some .local ∧ ∀ v, ov = some v → ∃ u, m x = some u ∧ Rep Φ v u) ∨
  (f.env.kindOf x = some .cell ∧ ∃ c o cv, f.env.cells.lookup x = some c ∧ h.get? c = some o ∧ o.data = .cell cv ∧ (c ∈ f.own ∨ Φ c = some o ∨ (c, o) ∈ f.keep) ∧ ∀ v, ov = some v → ∃ u, cv = some u ∧ Rep Φ v u)
def NsF (Φ : FMap) (a : Addr) (m : Str → Option Value) : Prop := ∃ o es ep, Φ a = some o ∧ o.data = .dict es ep ∧ StrKeys es ∧ ∀ name, nsFind es name = m name
theorem NsF.mono {Φ Ψ : FMap} (le : FLe Φ Ψ) {a : Addr} {m : Str → Option Value} (h : NsF Φ a m) : NsF Ψ a m :=
  Exists.imp (fun o => Exists.imp fun es => Exists.imp fun ep q => ⟨le _ _ q.1, q.2⟩) h
theorem NsF.ns {Φ : FMap} {a : Addr} {m : Str → Option Value} {h : Heap} (le : ∀ a o, Φ a = some o → h.get? a = some o) (x : NsF Φ a m) : h.Ns a m :=
  Exists.imp (fun o => Exists.imp fun es => Exists.imp fun ep q => ⟨le _ _ q.1, q.2⟩) x
/-- what a global or built-in name means -/
def GlobF (Φ : FMap) (x : Str) (v : MV) : Prop := ∃ mg mb u, NsF Φ mainGlobals mg ∧ NsF Φ builtinsNs mb ∧ (mg x = some u ∨ (mg x = none ∧ mb x = some u)) ∧ Rep Φ v u
theorem GlobF.mono {Φ Ψ : FMap} (le : FLe Φ Ψ) {x : Str} {v : MV} (h : GlobF Φ x v) : GlobF Ψ x v :=
  Exists.imp (fun mg => Exists.imp fun mb => Exists.imp fun u q => ⟨q.1.mono le, q.2.1.mono le, q.2.2.1, q.2.2.2.mono le⟩) h
structure FrOk (Φ : FMap) (f : FrS) (h : Heap) : Prop where
  kind : f.env.scope.kind = .function
  glob : f.env.globals = mainGlobals
  bi : f.env.builtins = builtinsNs
  glo : ∀ p ∈ f.γ, f.env.kindOf p.1 = some .globalImplicit ∧ (p.1 == ("__debug__" : Str)) = false ∧ GlobF Φ p.1 p.2
  dbg : ∀ p ∈ f.ρ, (p.1 == ("__debug__" : Str)) = false
  keys : (f.ρ.map (·.1)).Nodup
  cap : f.env.cells.Pairwise fun x y => x.2 ≠ y.2
  kept : ∀ p ∈ f.keep, h.get? p.1 = some p.2
  ns : ∃ m, h.Ns f.env.locals m ∧ ∀ p ∈ f.ρ, SlotOk Φ f h m p.1 p.2
def Res.Holds (Φ : FMap) (h : Heap) : Res → Prop
  | .list a xs => ∃ vs n, h.get? a = some (listO vs n) ∧ vs.length ≤ sizeLine ∧ Reps Φ xs vs
  | .barr a b => h.get? a = some (barrO b 0) ∧ b.size ≤ sizeLine
  | .imap a f n => ∃ (o : Obj) (es : Array DictEntry) (g : Int → Value), h.get? a = some o ∧ ((a == sysModules) = false ∧ MapO o es ∧ es.size ≤ n) ∧ (∀ k, f k = none → findBy Value.isInt es k = none) ∧ (∀ k m, f k = some m → findBy Value.isInt es k = some (g k)) ∧ (∀ k m, f k = some m → Rep Φ m (g k))
  | .inst x dx C kvs => ∃ es n, h.get? x = some ⟨.ref C, some dx, .plain, #[]⟩ ∧ h.get? dx = some (dictOf es n) ∧ es.length ≤ 1000 ∧ EsRep Φ kvs es
  | .fr f => FrOk Φ f h
  | .raw a o => h.get? a = some o
theorem SlotOk.mono {Φ Ψ : FMap} (le : FLe Φ Ψ) {f : FrS} {h : Heap} {m : Str → Option Value} {x : Str} {ov : Option MV} (s : SlotOk Φ f h m x ov) : SlotOk Ψ f h m x ov := by
  rcases s with ⟨a, b⟩ | ⟨a, c, o, cv, b, d, e, g, i⟩
  · exact .inl ⟨a, fun v hv => let ⟨u, p, q⟩ := b v hv; ⟨u, p, q.mono le⟩⟩
  · exact .inr ⟨a, c, o, cv, b, d, e, g.imp id (Or.imp (le _ _) id), fun v hv => let ⟨u, p, q⟩ := i v hv; ⟨u, p, q.mono le⟩⟩
theorem FrOk.mono {Φ Ψ : FMap} (le : FLe Φ Ψ) {f : FrS} {h : Heap} (x : FrOk Φ f h) : FrOk Ψ f h :=
  ⟨x.kind, x.glob, x.bi, fun p hp => ⟨(x.glo p hp).1, (x.glo p hp).2.1, (x.glo p hp).2.2.mono le⟩, x.dbg, x.keys, x.cap, x.kept, x.ns.imp fun m q => ⟨q.1, fun p hp => (q.2 p hp).mono le⟩⟩
theorem Res.Holds.mono {Φ Ψ : FMap} (le : FLe Φ Ψ) {h : Heap} {r : Res} (x : r.Holds Φ h) : r.Holds Ψ h := by
  cases r with
  | list a xs => exact Exists.imp (fun vs => Exists.imp fun n q => ⟨q.1, q.2.1, q.2.2.mono le⟩) x
  | barr a b => exact x
  | imap a f n => exact Exists.imp (fun o => Exists.imp fun es => Exists.imp fun g q => ⟨q.1, q.2.1, q.2.2.1, q.2.2.2.1, fun k m hk => (q.2.2.2.2 k m hk).mono le⟩) x
  | inst a b c kvs => exact Exists.imp (fun es => Exists.imp fun n q => ⟨q.1, q.2.1, q.2.2.1, q.2.2.2.mono le⟩) x
  | fr f => exact FrOk.mono le x
  | raw a o => exact x
theorem ns_at {h h' : Heap} {a : Addr} {m : Str → Option Value} (hn : h.Ns a m) (e : ∀ o, h.get? a = some o → h'.get? a = some o) : h'.Ns a m :=
  let ⟨o, es, ep, x, r⟩ := hn; ⟨o, es, ep, e _ x, r⟩
theorem SlotOk.frame {Φ : FMap} {f : FrS} {h h' : Heap} {m : Str → Option Value} {x : Str} {ov : Option MV} (s : SlotOk Φ f h m x ov)
    (k : ∀ c ∈ f.own ++ f.keep.map (·.1), ∀ o, h.get? c = some o → h'.get? c = some o) (le : ∀ a o, Φ a = some o → h'.get? a = some o) : SlotOk Φ f h' m x ov := by
  rcases s with a | ⟨a, c, o, cv, b, d, e, g, i⟩
  · exact .inl a
  · exact .inr ⟨a, c, o, cv, b, g.elim (fun q => k c (List.mem_append_left _ q) o d) (fun g => g.elim (le c o) fun q => k c (List.mem_append_right _ (List.mem_map.mpr ⟨_, q, rfl⟩)) o d), e, g, i⟩
theorem Res.Holds.frame {Φ : FMap} {h h' : Heap} {r : Res} (x : r.Holds Φ h) (k : ∀ a ∈ r.addrs, ∀ o, h.get? a = some o → h'.get? a = some o) (le : ∀ a o, Φ a = some o → h'.get? a = some o) : r.Holds Φ h' := by
  cases r with
  | list a xs => exact Exists.imp (fun vs => Exists.imp fun n q => ⟨k a (.head _) _ q.1, q.2⟩) x
  | barr a b => exact ⟨k a (.head _) _ x.1, x.2⟩
  | imap a f n => exact Exists.imp (fun o => Exists.imp fun es => Exists.imp fun g q => ⟨k a (.head _) _ q.1, q.2⟩) x
  | inst a b c kvs => exact Exists.imp (fun es => Exists.imp fun n q => ⟨k a (.head _) _ q.1, k b (.tail _ (.head _)) _ q.2.1, q.2.2⟩) x
  | fr f =>
    have y : FrOk Φ f h := x
    exact (⟨y.kind, y.glob, y.bi, y.glo, y.dbg, y.keys, y.cap, fun p hp => k _ (.tail _ (List.mem_append_right _ (List.mem_map.mpr ⟨_, hp, rfl⟩))) _ (y.kept p hp), y.ns.imp fun m q => ⟨ns_at q.1 fun o e => k _ (.head _) o e, fun p hp => (q.2 p hp).frame (fun c hc o e => k c (.tail _ hc) o e) le⟩⟩ : FrOk Φ f h')
  | raw a o => exact k a (.head _) _ x
noncomputable def foot (σ : List Res) : List Addr := σ.flatMap Res.addrs
theorem foot_cons (r : Res) (σ : List Res) : foot (r :: σ) = r.addrs ++ foot σ := rfl
theorem foot_append (σ τ : List Res) : foot (σ ++ τ) = foot σ ++ foot τ := List.flatMap_append
theorem foot_perm {σ τ : List Res} (p : σ.Perm τ) : (foot σ).Perm (foot τ) := by
  induction p with
  | nil => exact .refl _
  | cons x _ ih => rw [foot_cons, foot_cons]; exact ih.append_left _
  | swap x y l => rw [foot_cons, foot_cons, foot_cons, foot_cons, ← List.append_assoc, ← List.append_assoc]; exact List.perm_append_comm.append_right _
  | trans _ _ a b => exact a.trans b
structure Rel (Φ : FMap) (σ : List Res) (h : Heap) : Prop where
  le : ∀ a o, Φ a = some o → h.get? a = some o
  nd : (foot σ).Nodup
  off : ∀ a ∈ foot σ, Φ a = none
  live : ∀ a ∈ foot σ, ∃ o, h.get? a = some o
  res : ∀ r ∈ σ, r.Holds Φ h
theorem Rel.perm {Φ : FMap} {σ τ : List Res} {h : Heap} (x : Rel Φ σ h) (p : σ.Perm τ) : Rel Φ τ h :=
  ⟨x.le, (foot_perm p).nodup_iff.mp x.nd, fun a ha => x.off a ((foot_perm p).mem_iff.mpr ha), fun a ha => x.live a ((foot_perm p).mem_iff.mpr ha), fun r hr => x.res r (p.mem_iff.mpr hr)⟩
theorem Rel.kept {Φ : FMap} {σ : List Res} {h h' : Heap} (x : Rel Φ σ h) (k : ∀ b o, h.get? b = some o → h'.get? b = some o) : Rel Φ σ h' :=
  ⟨fun a o e => k a o (x.le a o e), x.nd, x.off, fun a ha => let ⟨o, e⟩ := x.live a ha; ⟨o, k a o e⟩, fun r hr => (x.res r hr).frame (fun a _ o e => k a o e) fun a o e => k a o (x.le a o e)⟩
theorem Rel.fresh_off {Φ : FMap} {σ : List Res} {h : Heap} (x : Rel Φ σ h) {a : Addr} (f : h.get? a = none) : a ∉ foot σ := fun ha => by
  obtain ⟨o, e⟩ := x.live a ha; rw [f] at e; cases e
theorem Rel.fresh_none {Φ : FMap} {σ : List Res} {h : Heap} (x : Rel Φ σ h) {a : Addr} (f : h.get? a = none) : Φ a = none := by
  cases e : Φ a with
  | none => rfl
  | some o => rw [x.le a o e] at f; cases f
noncomputable def ext1 (Φ : FMap) (a : Addr) (o : Obj) : FMap := fun b => if b = a then some o else Φ b
theorem ext1_self (Φ : FMap) (a : Addr) (o : Obj) : ext1 Φ a o a = some o := by simp [ext1]
theorem ext1_le {Φ : FMap} {a : Addr} {o : Obj} (h : Φ a = none) : FLe Φ (ext1 Φ a o) := fun b o' e => by
  unfold ext1; split
  · rename_i q; subst q; rw [h] at e; cases e
  · exact e
theorem Rel.push_frozen {Φ : FMap} {σ : List Res} {h h' : Heap} {a : Addr} {o : Obj} (x : Rel Φ σ h) (k : ∀ b o, h.get? b = some o → h'.get? b = some o) (f : h.get? a = none) (e : h'.get? a = some o) : Rel (ext1 Φ a o) σ h' := by
  have x' := x.kept k
  have hn := x.fresh_off f
  refine ⟨fun b o' q => ?_, x.nd, fun b hb => ?_, x'.live, fun r hr => (x'.res r hr).mono (ext1_le (x.fresh_none f))⟩
  · unfold ext1 at q; split at q
    · rename_i q'; subst q'; cases q; exact e
    · exact x'.le b o' q
  · unfold ext1; split
    · rename_i q; subst q; exact absurd hb hn
    · exact x.off b hb
theorem Rel.push_res {Φ : FMap} {σ : List Res} {h h' : Heap} {r : Res} (x : Rel Φ σ h) (k : ∀ b o, h.get? b = some o → h'.get? b = some o) (nd : r.addrs.Nodup) (f : ∀ a ∈ r.addrs, h.get? a = none)
    (l : ∀ a ∈ r.addrs, ∃ o, h'.get? a = some o) (e : r.Holds Φ h') : Rel Φ (r :: σ) h' := by
  have x' := x.kept k
  refine ⟨x'.le, ?_, ?_, ?_, ?_⟩
  · rw [foot_cons]; exact List.nodup_append.mpr ⟨nd, x.nd, fun a ha b hb q => x.fresh_off (f a ha) (q ▸ hb)⟩
  · intro a ha; rw [foot_cons] at ha
    rcases List.mem_append.mp ha with ha | ha
    · exact x.fresh_none (f a ha)
    · exact x.off a ha
  · intro a ha; rw [foot_cons] at ha
    rcases List.mem_append.mp ha with ha | ha
    · exact l a ha
    · exact x'.live a ha
  · intro r' hr; rcases List.mem_cons.mp hr with rfl | hr
    · exact e
    · exact x'.res r' hr
/-- the first resource is changed in place -/
theorem Rel.change {Φ : FMap} {σ : List Res} {h h' : Heap} {r r' : Res} (x : Rel Φ (r :: σ) h) (hs : ∀ b o, b ∉ r.addrs → h.get? b = some o → h'.get? b = some o) (e : r'.addrs = r.addrs)
    (l : ∀ a ∈ r.addrs, ∃ o, h'.get? a = some o) (hr' : r'.Holds Φ h') : Rel Φ (r' :: σ) h' := by
  have nd := x.nd
  rw [foot_cons] at nd
  obtain ⟨_, _, dj⟩ := List.nodup_append.mp nd
  have hl : ∀ a o, Φ a = some o → h'.get? a = some o := fun a o q => by
    refine hs a o (fun ha => ?_) (x.le a o q)
    rw [x.off a (by rw [foot_cons]; exact List.mem_append_left _ ha)] at q; cases q
  have hk : ∀ a ∈ foot σ, ∀ o, h.get? a = some o → h'.get? a = some o := fun a ha o q => hs a o (fun q' => dj a q' a ha rfl) q
  refine ⟨hl, by rw [foot_cons, e]; exact nd, fun a ha => x.off a (by rw [foot_cons, ← e]; exact ha), fun a ha => ?_, fun q hq => ?_⟩
  · rw [foot_cons, e] at ha
    rcases List.mem_append.mp ha with ha | ha
    · exact l a ha
    · obtain ⟨o, q⟩ := x.live a (by rw [foot_cons]; exact List.mem_append_right _ ha); exact ⟨o, hk a ha o q⟩
  · rcases List.mem_cons.mp hq with rfl | hq
    · exact hr'
    · refine (x.res q (.tail _ hq)).frame (fun a ha o e => hk a ?_ o e) hl
      exact List.mem_flatMap.mpr ⟨q, hq, ha⟩
theorem Rel.drop {Φ : FMap} {σ : List Res} {h : Heap} {r : Res} (x : Rel Φ (r :: σ) h) : Rel Φ σ h := by
  have nd := x.nd; rw [foot_cons] at nd
  exact ⟨x.le, (List.nodup_append.mp nd).2.1, fun a ha => x.off a (by rw [foot_cons]; exact List.mem_append_right _ ha), fun a ha => x.live a (by rw [foot_cons]; exact List.mem_append_right _ ha), fun q hq => x.res q (.tail _ hq)⟩
theorem Rel.head {Φ : FMap} {σ : List Res} {h : Heap} {r : Res} (x : Rel Φ (r :: σ) h) : r.Holds Φ h := x.res r (.head _)
theorem Rel.freeze1 {Φ : FMap} {σ : List Res} {h : Heap} {r : Res} {a : Addr} {o : Obj} (x : Rel Φ (r :: σ) h) (e : r.addrs = [a]) (ho : h.get? a = some o) : Rel (ext1 Φ a o) σ h := by
  have nd := x.nd; rw [foot_cons, e] at nd
  have hn : a ∉ foot σ := (List.nodup_cons.mp nd).1
  have ha : Φ a = none := x.off a (by rw [foot_cons, e]; exact .head _)
  have y := x.drop
  refine ⟨fun b o' q => ?_, y.nd, fun b hb => ?_, y.live, fun r hr => (y.res r hr).mono (ext1_le ha)⟩
  · unfold ext1 at q; split at q
    · rename_i q'; subst q'; cases q; exact ho
    · exact y.le b o' q
  · unfold ext1; split
    · rename_i q; subst q; exact absurd hb hn
    · exact y.off b hb
structure Room (A : Around) (d : Nat) : Prop where
  hh : A.handled = none
  dep : A.depth + d ≤ recursionLimit
  un : A.units + 20 * d ≤ cLine
  gd : A.guards = some []
structure Now (h₀ : Heap) (d : Nat) (A : Around) (Φ : FMap) (σ : List Res) (h : Heap) : Prop where
  room : Room A d
  base : ∀ a o, h₀.get? a = some o → Φ a = some o
  rel : Rel Φ σ h
theorem Now.next {h₀ : Heap} {d : Nat} {A : Around} {Φ Φ' : FMap} {σ τ : List Res} {h h' : Heap} (N : Now h₀ d A Φ σ h) (le : FLe Φ Φ') (r : Rel Φ' τ h') : Now h₀ d A Φ' τ h' :=
  ⟨N.room, fun a o e => le a o (N.base a o e), r⟩
theorem Now.perm {h₀ : Heap} {d : Nat} {A : Around} {Φ : FMap} {σ τ : List Res} {h : Heap} (N : Now h₀ d A Φ σ h) (p : σ.Perm τ) : Now h₀ d A Φ τ h := ⟨N.room, N.base, N.rel.perm p⟩
theorem Now.heap {h₀ : Heap} {d : Nat} {A : Around} {Φ : FMap} {σ : List Res} {h : Heap} (N : Now h₀ d A Φ σ h) : ∀ a o, h₀.get? a = some o → h.get? a = some o := fun a o e => N.rel.le a o (N.base a o e)
/-! ## judgements -/
section
variable (prog : Program) (w : World) (h₀ : Heap)
def JJ {α β : Type} (d : Nat) (R : FMap → β → α → Prop) (pre : List Res) (ms : List MV) (t : List Value → Sem α) (post : β → List Res → Prop) : Prop :=
  ∀ (A : Around) (s : Shared) (Φ : FMap) (F : List Res) (E : Value → Shared → Prop) (Q : α → Shared → Prop) (vs : List Value), Now h₀ d A Φ (pre ++ F) s.heap → Reps Φ ms vs →
    (∀ a b σ' Φ' h' tk, FLe Φ Φ' → Rel Φ' (σ' ++ F) h' → R Φ' b a → post b σ' → Q a { s with heap := h', toks := tk }) → wpAny (model prog w) A (t vs) Q E s
def EV (d : Nat) (f : FrS) (σ : List Res) (e : Expr) (P : MV → List Res → Prop) : Prop :=
  JJ prog w h₀ d Rep (.fr f :: σ) [] (fun _ => eval e f.env) (fun m σ' => ∃ τ, σ' = .fr f :: τ ∧ P m τ)
def TE (d : Nat) (f : FrS) (σ : List Res) (e : Expr) (P : Bool → List Res → Prop) : Prop :=
  JJ prog w h₀ d (fun _ b a => a = b) (.fr f :: σ) [] (fun _ => isTrue e f.env (eval e f.env)) (fun m σ' => ∃ τ, σ' = .fr f :: τ ∧ P m τ)
def EVs (d : Nat) (f : FrS) (σ : List Res) (pos : Pos) (es : List Expr) (P : List MV → List Res → Prop) : Prop :=
  JJ prog w h₀ d Reps (.fr f :: σ) [] (fun _ => spliced (backTo pos (starEach es f.env))) (fun m σ' => ∃ τ, σ' = .fr f :: τ ∧ P m τ)
def BIN (d : Nat) (σ : List Res) (op : Operator) (a b : MV) (P : MV → List Res → Prop) : Prop :=
  JJ prog w h₀ d Rep σ [a, b] (fun vs => binaryOp op (vs.getD 0 .none) (vs.getD 1 .none)) P
def INP (d : Nat) (σ : List Res) (op : Operator) (a b : MV) (P : MV → List Res → Prop) : Prop :=
  JJ prog w h₀ d Rep σ [a, b] (fun vs => inplaceOp op (vs.getD 0 .none) (vs.getD 1 .none)) P
def CMP (d : Nat) (σ : List Res) (op : CmpOp) (a b : MV) (P : Bool → List Res → Prop) : Prop :=
  JJ prog w h₀ d (fun _ b a => a = .bool b) σ [a, b] (fun vs => compareOp op (vs.getD 0 .none) (vs.getD 1 .none)) P
def GETI (d : Nat) (σ : List Res) (a b : MV) (P : MV → List Res → Prop) : Prop :=
  JJ prog w h₀ d Rep σ [a, b] (fun vs => getItem (vs.getD 0 .none) (vs.getD 1 .none)) P
def SETI (d : Nat) (σ : List Res) (a b c : MV) (P : List Res → Prop) : Prop :=
  JJ prog w h₀ d (fun _ (_ : Unit) (_ : Unit) => True) σ [a, b, c] (fun vs => setItem (vs.getD 0 .none) (vs.getD 1 .none) (vs.getD 2 .none)) (fun _ => P)
def CALL (d : Nat) (σ : List Res) (fn : MV) (args : List MV) (P : MV → List Res → Prop) : Prop :=
  JJ prog w h₀ d Rep σ (fn :: args) (fun vs => call (vs.headD .none) vs.tail) P
inductive FL where
  | next | brk | cont | ret (v : MV)
inductive RepF (Φ : FMap) : FL → Flow → Prop
  | next : RepF Φ .next .next
  | brk : RepF Φ .brk .brk
  | cont : RepF Φ .cont .cont
  | ret {m : MV} {v : Value} : Rep Φ m v → RepF Φ (.ret m) (.ret v)
/-- a statement list in a function's frame -/
noncomputable abbrev fr1 (env : Env) (γ : List (Str × MV)) (ρ : Loc) : Res := .fr ⟨env, ρ, env.cells.map (·.2), γ, []⟩
def XV (d : Nat) (env : Env) (γ : List (Str × MV)) (ρ : Loc) (σ : List Res) (ss : List Stmt) (P : FL → Loc → List Res → Prop) : Prop :=
  JJ prog w h₀ d RepF (fr1 env γ ρ :: σ) [] (fun _ => execs ss env) (fun m σ' => ∃ ρ' τ, σ' = fr1 env γ ρ' :: τ ∧ P m ρ' τ)
def X1 (d : Nat) (env : Env) (γ : List (Str × MV)) (ρ : Loc) (σ : List Res) (st : Stmt) (P : FL → Loc → List Res → Prop) : Prop :=
  JJ prog w h₀ d RepF (fr1 env γ ρ :: σ) [] (fun _ => exec st env) (fun m σ' => ∃ ρ' τ, σ' = fr1 env γ ρ' :: τ ∧ P m ρ' τ)
/-- a store into a target -/
def AS (d : Nat) (env : Env) (γ : List (Str × MV)) (ρ : Loc) (σ : List Res) (t : Expr) (v : MV) (P : Loc → List Res → Prop) : Prop :=
  JJ prog w h₀ d (fun _ (_ : Unit) (_ : Unit) => True) (fr1 env γ ρ :: σ) [v] (fun vs => assign t env (vs.headD .none)) (fun _ σ' => ∃ ρ' τ, σ' = fr1 env γ ρ' :: τ ∧ P ρ' τ)
end
end Mine
open PySem PySem.W PySem.Calls PyProof.Rows
set_option Elab.async false
set_option maxRecDepth 100000
set_option linter.unusedVariables false
namespace Mine
theorem permF {r : Res} {τ F : List Res} : ((r :: τ) ++ F).Perm (τ ++ r :: F) := List.perm_middle.symm
section
variable {prog : Program} {w : World} {h₀ : Heap} {d : Nat} {f : FrS} {σ : List Res}
theorem JJ.post {α β : Type} {R : FMap → β → α → Prop} {pre : List Res} {ms : List MV} {t : List Value → Sem α} {p q : β → List Res → Prop} (h : JJ prog w h₀ d R pre ms t p) (k : ∀ b σ', p b σ' → q b σ') : JJ prog w h₀ d R pre ms t q :=
  fun A s Φ F E Q vs N R' kk => h A s Φ F E Q vs N R' fun a b σ' Φ' h' tk le rel rr hp => kk a b σ' Φ' h' tk le rel rr (k b σ' hp)
theorem JJ.perm {α β : Type} {R : FMap → β → α → Prop} {pre pre' : List Res} {ms : List MV} {t : List Value → Sem α} {p : β → List Res → Prop} (h : JJ prog w h₀ d R pre ms t p) (k : pre'.Perm pre) : JJ prog w h₀ d R pre' ms t p :=
  fun A s Φ F E Q vs N R' kk => h A s Φ F E Q vs (N.perm (k.append_right F)) R' kk
/-! expressions -/
theorem EV_mono {e : Expr} {P P' : MV → List Res → Prop} (h : EV prog w h₀ d f σ e P) (k : ∀ m τ, P m τ → P' m τ) : EV prog w h₀ d f σ e P' :=
  JJ.post h fun b σ' ⟨τ, e, hp⟩ => ⟨τ, e, k b τ hp⟩
variable {P : MV → List Res → Prop} {pos : Pos} {k : Nat}
theorem EV_int {i : Int} (h : P (.int i) σ) : EV prog w h₀ d f σ (.Constant (.int i) k pos) P := by
  intro A s Φ F E Q vs N R kk
  exact wpAny_Constant_int (kk _ _ _ Φ s.heap _ (.refl Φ) N.rel (.int i _) ⟨σ, rfl, h⟩)
theorem EV_bool {b : Bool} (h : P (.bool b) σ) : EV prog w h₀ d f σ (.Constant (.bool b) k pos) P := by
  intro A s Φ F E Q vs N R kk
  exact wpAny_Constant_bool (kk _ _ _ Φ s.heap s.toks (.refl Φ) N.rel (.bool b) ⟨σ, rfl, h⟩)
theorem EV_bytes {b : List UInt8} (h : P (.bytes b.toArray) σ) (hb : b.toArray.size ≤ sizeLine := by decide) : EV prog w h₀ d f σ (.Constant (.bytes b) k pos) P := by
  intro A s Φ F E Q vs N R kk Γ p hΓ
  exact kk _ _ _ Φ s.heap _ (.refl Φ) N.rel (.bytes b.toArray _ hb) ⟨σ, rfl, h⟩
theorem EV_name {x : Str} {v : MV} (hx : (x, some v) ∈ f.ρ) (h : P v σ) : EV prog w h₀ d f σ (.Name x pos) P := by
  intro A s Φ F E Q vs N R kk
  have O : FrOk Φ f s.heap := N.rel.head
  obtain ⟨m, hn, hs⟩ := O.ns
  refine wpAny_Name ?_ (O.dbg _ hx)
  rcases hs _ hx with ⟨hl, hv⟩ | ⟨hl, c, o, cv, hc, ho, hd, _, hv⟩
  · obtain ⟨u, hu, r⟩ := hv v rfl
    exact wpAny_loadName_local O.kind hl hn hu (kk u v _ Φ s.heap s.toks (.refl Φ) N.rel r ⟨σ, rfl, h⟩)
  · obtain ⟨u, hu, r⟩ := hv v rfl
    exact wpAny_loadName_cell O.kind hl hc ⟨o, ho, hu ▸ hd⟩ (kk u v _ Φ s.heap s.toks (.refl Φ) N.rel r ⟨σ, rfl, h⟩)
theorem EV_binop {l r : Expr} {op : Operator} (h : EV prog w h₀ d f σ l (fun a σ1 => EV prog w h₀ d f σ1 r (fun b σ2 => BIN prog w h₀ d σ2 op a b P))) : EV prog w h₀ d f σ (.BinOp l op r pos) P := by
  intro A s Φ F E Q vs N R kk
  refine wpAny_BinOp (h A s Φ F E _ [] N .nil ?_)
  rintro v a σ' Φ1 h1 tk1 le1 rel1 rep1 ⟨τ, rfl, h⟩
  refine h A _ Φ1 F E _ [] (N.next le1 rel1) .nil ?_
  rintro u b σ' Φ2 h2 tk2 le2 rel2 rep2 ⟨τ2, rfl, h⟩
  refine h A _ Φ2 (.fr f :: F) E _ [v, u] (N.next (le1.trans le2) (rel2.perm permF)) (.cons (rep1.mono le2) (.cons rep2 .nil)) ?_
  intro x m σ3 Φ3 h3 tk3 le3 rel3 rep3 hp
  exact kk x m _ Φ3 h3 tk3 (le1.trans (le2.trans le3)) (rel3.perm permF.symm) rep3 ⟨σ3, rfl, hp⟩
theorem EV_compare {l r : Expr} {op : CmpOp} (h : EV prog w h₀ d f σ l (fun a σ1 => EV prog w h₀ d f σ1 r (fun b σ2 => CMP prog w h₀ d σ2 op a b (fun x => P (.bool x)))))
    (hm : behindInMarks op r = false := by with_unfolding_all rfl) : EV prog w h₀ d f σ (.Compare l [op] [r] pos) P := by
  intro A s Φ F E Q vs N R kk
  refine wpAny_Compare1 (hm := hm) (h A s Φ F E _ [] N .nil ?_)
  rintro v a σ' Φ1 h1 tk1 le1 rel1 rep1 ⟨τ, rfl, h⟩
  refine h A _ Φ1 F E _ [] (N.next le1 rel1) .nil ?_
  rintro u b σ' Φ2 h2 tk2 le2 rel2 rep2 ⟨τ2, rfl, h⟩
  refine h A _ Φ2 (.fr f :: F) E _ [v, u] (N.next (le1.trans le2) (rel2.perm permF)) (.cons (rep1.mono le2) (.cons rep2 .nil)) ?_
  intro x m σ3 Φ3 h3 tk3 le3 rel3 rep3 hp
  subst rep3
  exact kk _ (.bool m) _ Φ3 h3 tk3 (le1.trans (le2.trans le3)) (rel3.perm permF.symm) (.bool m) ⟨σ3, rfl, hp⟩
theorem TE_compare {l r : Expr} {op : CmpOp} {P : Bool → List Res → Prop} (h : EV prog w h₀ d f σ l (fun a σ1 => EV prog w h₀ d f σ1 r (fun b σ2 => CMP prog w h₀ d σ2 op a b P)))
    (hm : behindInMarks op r = false := by with_unfolding_all rfl) : TE prog w h₀ d f σ (.Compare l [op] [r] pos) P := by
  intro A s Φ F E Q vs N R kk
  refine wpAny_isTrue_Compare1 (hm := hm) (h A s Φ F E _ [] N .nil ?_)
  rintro v a σ' Φ1 h1 tk1 le1 rel1 rep1 ⟨τ, rfl, h⟩
  refine h A _ Φ1 F E _ [] (N.next le1 rel1) .nil ?_
  rintro u b σ' Φ2 h2 tk2 le2 rel2 rep2 ⟨τ2, rfl, h⟩
  refine h A _ Φ2 (.fr f :: F) E _ [v, u] (N.next (le1.trans le2) (rel2.perm permF)) (.cons (rep1.mono le2) (.cons rep2 .nil)) ?_
  intro x m σ3 Φ3 h3 tk3 le3 rel3 rep3 hp
  subst rep3
  exact wpAny_truthy_bool (kk _ m _ Φ3 h3 tk3 (le1.trans (le2.trans le3)) (rel3.perm permF.symm) rfl ⟨σ3, rfl, hp⟩)
def TEs (prog : Program) (w : World) (h₀ : Heap) (d : Nat) (f : FrS) (σ : List Res) (op : PySem.BoolOp) (es : List Expr) (P : Bool → List Res → Prop) : Prop :=
  JJ prog w h₀ d (fun _ b a => a = b) (.fr f :: σ) [] (fun _ => allTrue op es f.env) (fun m σ' => ∃ τ, σ' = .fr f :: τ ∧ P m τ)
theorem TE_boolop {op : PySem.BoolOp} {es : List Expr} {P : Bool → List Res → Prop} (h : TEs prog w h₀ d f σ op es P) : TE prog w h₀ d f σ (.BoolOp op es pos) P := by
  intro A s Φ F E Q vs N R kk
  exact wpAny_isTrue_BoolOp (h A s Φ F E _ [] N .nil kk)
theorem TEs_and_nil {P : Bool → List Res → Prop} (h : P true σ) : TEs prog w h₀ d f σ .And [] P := by
  intro A s Φ F E Q vs N R kk
  exact wpAny_allTrue_And_nil (kk _ _ _ Φ s.heap s.toks (.refl Φ) N.rel rfl ⟨σ, rfl, h⟩)
theorem TEs_or_nil {P : Bool → List Res → Prop} (h : P false σ) : TEs prog w h₀ d f σ .Or [] P := by
  intro A s Φ F E Q vs N R kk
  exact wpAny_allTrue_Or_nil (kk _ _ _ Φ s.heap s.toks (.refl Φ) N.rel rfl ⟨σ, rfl, h⟩)
theorem TEs_and {x : Expr} {es : List Expr} {P : Bool → List Res → Prop} (h : TE prog w h₀ d f σ x (fun b σ1 => (b = true → TEs prog w h₀ d f σ1 .And es P) ∧ (b = false → P false σ1))) : TEs prog w h₀ d f σ .And (x :: es) P := by
  intro A s Φ F E Q vs N R kk
  refine wpAny_allTrue_And_cons (h A s Φ F E _ [] N .nil ?_)
  rintro v a σ' Φ1 h1 tk1 le1 rel1 rfl ⟨τ, rfl, h⟩
  cases v with
  | true => exact h.1 rfl A _ Φ1 F E _ [] (N.next le1 rel1) .nil fun x m σ3 Φ3 h3 tk3 le3 rel3 rep3 hp => kk x m σ3 Φ3 h3 tk3 (le1.trans le3) rel3 rep3 hp
  | false => exact kk _ _ _ Φ1 h1 tk1 le1 rel1 rfl ⟨τ, rfl, h.2 rfl⟩
theorem TEs_or {x : Expr} {es : List Expr} {P : Bool → List Res → Prop} (h : TE prog w h₀ d f σ x (fun b σ1 => (b = false → TEs prog w h₀ d f σ1 .Or es P) ∧ (b = true → P true σ1))) : TEs prog w h₀ d f σ .Or (x :: es) P := by
  intro A s Φ F E Q vs N R kk
  refine wpAny_allTrue_Or_cons (h A s Φ F E _ [] N .nil ?_)
  rintro v a σ' Φ1 h1 tk1 le1 rel1 rfl ⟨τ, rfl, h⟩
  cases v with
  | false => exact h.1 rfl A _ Φ1 F E _ [] (N.next le1 rel1) .nil fun x m σ3 Φ3 h3 tk3 le3 rel3 rep3 hp => kk x m σ3 Φ3 h3 tk3 (le1.trans le3) rel3 rep3 hp
  | true => exact kk _ _ _ Φ1 h1 tk1 le1 rel1 rfl ⟨τ, rfl, h.2 rfl⟩
/-- the truth of a value -/
def TRU (prog : Program) (w : World) (h₀ : Heap) (d : Nat) (σ : List Res) (v : MV) (P : Bool → List Res → Prop) : Prop :=
  JJ prog w h₀ d (fun _ b a => a = b) σ [v] (fun vs => truthy (vs.headD .none)) P
theorem TRU_bool {b : Bool} {P : Bool → List Res → Prop} (h : P b σ) : TRU prog w h₀ d σ (.bool b) P := by
  intro A s Φ F E Q vs N R kk
  obtain ⟨u, rfl, r⟩ := R.one
  (first | obtain ⟨_, rfl⟩ := r.inv_int | obtain rfl := r.inv_ref | obtain rfl := r.inv_none | obtain rfl := r.inv_bool | cases r)
  exact wpAny_truthy_bool (kk _ _ _ Φ s.heap s.toks (.refl Φ) N.rel rfl h)
theorem TE_value {e : Expr} {P : Bool → List Res → Prop} (h : EV prog w h₀ d f σ e (fun v σ1 => TRU prog w h₀ d σ1 v P))
    (he : ∀ env whole, isTrue e env whole = (do let v ← whole; standAt e.pos; holding [v] (truthy v)) := by intros; rfl) : TE prog w h₀ d f σ e P := by
  intro A s Φ F E Q vs N R kk
  refine wpAny_isTrue_value (h A s Φ F E _ [] N .nil ?_) (he _ _)
  rintro v a σ' Φ1 h1 tk1 le1 rel1 rep1 ⟨τ, rfl, h⟩
  refine h A _ Φ1 (.fr f :: F) E _ [v] (N.next le1 (rel1.perm permF)) (.cons rep1 .nil) ?_
  intro x m σ3 Φ3 h3 tk3 le3 rel3 rep3 hp
  exact kk x m _ Φ3 h3 tk3 (le1.trans le3) (rel3.perm permF.symm) rep3 ⟨σ3, rfl, hp⟩
theorem EV_or2 {x y : Expr} (h : EV prog w h₀ d f σ x (fun v σ1 => TRU prog w h₀ d σ1 v (fun b σ2 => (b = true → P v σ2) ∧ (b = false → EV prog w h₀ d f σ2 y P)))) : EV prog w h₀ d f σ (.BoolOp .Or [x, y] pos) P := by
  intro A s Φ F E Q vs N R kk
  refine wpAny_Or2 (h A s Φ F E _ [] N .nil ?_)
  rintro v a σ' Φ1 h1 tk1 le1 rel1 rep1 ⟨τ, rfl, h⟩
  refine h A _ Φ1 (.fr f :: F) E _ [v] (N.next le1 (rel1.perm permF)) (.cons rep1 .nil) ?_
  rintro b m σ3 Φ3 h3 tk3 le3 rel3 rfl hp
  cases b with
  | true => exact kk v a _ Φ3 h3 tk3 (le1.trans le3) (rel3.perm permF.symm) (rep1.mono le3) ⟨σ3, rfl, hp.1 rfl⟩
  | false => exact hp.2 rfl A _ Φ3 F E _ [] (N.next (le1.trans le3) (rel3.perm permF.symm)) .nil fun x m σ4 Φ4 h4 tk4 le4 rel4 rep4 hp => kk x m σ4 Φ4 h4 tk4 (le1.trans (le3.trans le4)) rel4 rep4 hp
theorem EV_ifexp {t b o : Expr} (h : TE prog w h₀ d f σ t (fun x σ1 => (x = true → EV prog w h₀ d f σ1 b P) ∧ (x = false → EV prog w h₀ d f σ1 o P))) : EV prog w h₀ d f σ (.IfExp t b o pos) P := by
  intro A s Φ F E Q vs N R kk
  refine wpAny_IfExp (h A s Φ F E _ [] N .nil ?_)
  rintro v a σ' Φ1 h1 tk1 le1 rel1 rfl ⟨τ, rfl, h⟩
  cases v with
  | true => exact h.1 rfl A _ Φ1 F E _ [] (N.next le1 rel1) .nil fun x m σ3 Φ3 h3 tk3 le3 rel3 rep3 hp => kk x m σ3 Φ3 h3 tk3 (le1.trans le3) rel3 rep3 hp
  | false => exact h.2 rfl A _ Φ1 F E _ [] (N.next le1 rel1) .nil fun x m σ3 Φ3 h3 tk3 le3 rel3 rep3 hp => kk x m σ3 Φ3 h3 tk3 (le1.trans le3) rel3 rep3 hp
def UN (prog : Program) (w : World) (h₀ : Heap) (d : Nat) (σ : List Res) (op : PySem.UnaryOp) (v : MV) (P : MV → List Res → Prop) : Prop :=
  JJ prog w h₀ d Rep σ [v] (fun vs => unaryOp op (vs.headD .none)) P
theorem EV_unary {x : Expr} {op : PySem.UnaryOp} (h : EV prog w h₀ d f σ x (fun v σ1 => UN prog w h₀ d σ1 op v P)) : EV prog w h₀ d f σ (.UnaryOp op x pos) P := by
  intro A s Φ F E Q vs N R kk
  refine wpAny_UnaryOp (h A s Φ F E _ [] N .nil ?_)
  rintro v a σ' Φ1 h1 tk1 le1 rel1 rep1 ⟨τ, rfl, h⟩
  refine h A _ Φ1 (.fr f :: F) E _ [v] (N.next le1 (rel1.perm permF)) (.cons rep1 .nil) ?_
  intro x m σ3 Φ3 h3 tk3 le3 rel3 rep3 hp
  exact kk x m _ Φ3 h3 tk3 (le1.trans le3) (rel3.perm permF.symm) rep3 ⟨σ3, rfl, hp⟩
theorem EVs_nil {P : List MV → List Res → Prop} (h : P [] σ) : EVs prog w h₀ d f σ pos [] P := by
  intro A s Φ F E Q vs N R kk
  exact args_nil (kk _ _ _ Φ s.heap s.toks (.refl Φ) N.rel .nil ⟨σ, rfl, h⟩)
theorem EVs_cons {e : Expr} {es : List Expr} {P : List MV → List Res → Prop} (h : EV prog w h₀ d f σ e (fun v σ1 => EVs prog w h₀ d f σ1 pos es (fun ms => P (v :: ms))))
    (he : ∀ env, starEach (e :: es) env = (false, eval e env) :: starEach es env := by intro _; rfl) : EVs prog w h₀ d f σ pos (e :: es) P := by
  intro A s Φ F E Q vs N R kk
  refine args_cons (h A s Φ F E _ [] N .nil ?_) (he _)
  rintro v a σ' Φ1 h1 tk1 le1 rel1 rep1 ⟨τ, rfl, h⟩
  refine h A _ Φ1 F E _ [] (N.next le1 rel1) .nil ?_
  rintro x m σ3 Φ3 h3 tk3 le3 rel3 rep3 ⟨τ3, rfl, hp⟩
  exact kk (v :: x) (a :: m) _ Φ3 h3 tk3 (le1.trans le3) rel3 (.cons (rep1.mono le3) rep3) ⟨τ3, rfl, hp⟩
theorem EV_tuple {es : List Expr} (h : EVs prog w h₀ d f σ pos es (fun ms τ => ms.length ≤ sizeLine ∧ P (.tup ms) τ)) : EV prog w h₀ d f σ (.Tuple es k pos) P := by
  intro A s Φ F E Q vs N R kk
  refine wpAny_Tuple (h A s Φ F E _ [] N .nil ?_)
  rintro vs ms σ' Φ1 h1 tk1 le1 rel1 rep1 ⟨τ, rfl, hz, hp⟩
  have hl := rep1.length
  refine ⟨by lia, ?_⟩
  have fr : h1.get? h1.objs.size = none := by
    cases e : h1.get? h1.objs.size with
    | none => rfl
    | some o => exact absurd (Heap.lt_size e) (Nat.lt_irrefl _)
  have g := Heap.get?_push_size h1 (o := { cls := .type "tuple", data := .seq vs.toArray }) rfl
  refine kk _ (.tup ms) _ (ext1 Φ1 h1.objs.size _) _ _ (le1.trans (ext1_le (rel1.fresh_none fr))) (rel1.push_frozen (fun _ _ e => Heap.get?_push_of_some _ e) fr g) ?_ ⟨τ, rfl, hp⟩
  exact .tup (ext1_self ..) rfl rfl (by lia) (rep1.mono (ext1_le (rel1.fresh_none fr)))
/-- a list display: a new mutable list -/
theorem EV_list {es : List Expr} (h : EVs prog w h₀ d f σ pos es (fun ms τ => ms.length ≤ sizeLine ∧ ∀ a, P (.ref a) (.list a ms :: τ))) : EV prog w h₀ d f σ (.List es pos) P := by
  intro A s Φ F E Q vs N R kk
  refine wpAny_List (h A s Φ F E _ [] N .nil ?_)
  rintro vs ms σ' Φ1 h1 tk1 le1 rel1 rep1 ⟨τ, rfl, hz, hp⟩
  have hl := rep1.length
  refine ⟨by lia, ?_⟩
  have fr : h1.get? h1.objs.size = none := by
    cases e : h1.get? h1.objs.size with
    | none => rfl
    | some o => exact absurd (Heap.lt_size e) (Nat.lt_irrefl _)
  have g := Heap.get?_push_size h1 (o := { cls := .type "list", data := .seq vs.toArray }) rfl
  refine kk _ (.ref h1.objs.size) (.fr f :: .list h1.objs.size ms :: τ) Φ1 _ _ le1 (Rel.perm (rel1.push_res (r := .list h1.objs.size ms) (fun _ _ e => Heap.get?_push_of_some _ e) (by simp [Res.addrs]) ?_ ?_ ⟨vs, 0, g, by lia, rep1⟩) (List.Perm.swap _ _ _)) (.ref _) ⟨_, rfl, hp _⟩
  · intro a ha; simp [Res.addrs] at ha; subst ha; exact fr
  · intro a ha; simp [Res.addrs] at ha; subst ha; exact ⟨_, g⟩
/-- a list display that nothing changes later: a frozen list -/
theorem EV_listF {es : List Expr} (h : EVs prog w h₀ d f σ pos es (fun ms τ => ms.length ≤ sizeLine ∧ P (.list ms) τ)) : EV prog w h₀ d f σ (.List es pos) P := by
  intro A s Φ F E Q vs N R kk
  refine wpAny_List (h A s Φ F E _ [] N .nil ?_)
  rintro vs ms σ' Φ1 h1 tk1 le1 rel1 rep1 ⟨τ, rfl, hz, hp⟩
  have hl := rep1.length
  refine ⟨by lia, ?_⟩
  have fr : h1.get? h1.objs.size = none := by
    cases e : h1.get? h1.objs.size with
    | none => rfl
    | some o => exact absurd (Heap.lt_size e) (Nat.lt_irrefl _)
  have g := Heap.get?_push_size h1 (o := { cls := .type "list", data := .seq vs.toArray }) rfl
  refine kk _ (.list ms) _ (ext1 Φ1 h1.objs.size _) _ _ (le1.trans (ext1_le (rel1.fresh_none fr))) (rel1.push_frozen (fun _ _ e => Heap.get?_push_of_some _ e) fr g) ?_ ⟨τ, rfl, hp⟩
  exact .list (ext1_self ..) rfl rfl (by lia) (rep1.mono (ext1_le (rel1.fresh_none fr)))
end
end Mine
open PySem PySem.W PySem.Calls PyProof.Rows
set_option Elab.async false
set_option maxRecDepth 100000
set_option linter.unusedVariables false
namespace Mine
/-- ρ with x bound to v -/
inductive UpdL (x : Str) (v : MV) : Loc → Loc → Prop
  | head {ov : Option MV} {ρ : Loc} : UpdL x v ((x, ov) :: ρ) ((x, some v) :: ρ)
  | tail {p : Str × Option MV} {ρ ρ' : Loc} : UpdL x v ρ ρ' → UpdL x v (p :: ρ) (p :: ρ')
theorem UpdL.keys {x : Str} {v : MV} {ρ ρ' : Loc} (u : UpdL x v ρ ρ') : ρ'.map (·.1) = ρ.map (·.1) := by
  induction u with
  | head => rfl
  | tail _ ih => simp [ih]
theorem UpdL.old {x : Str} {v : MV} : ∀ {ρ ρ' : Loc}, UpdL x v ρ ρ' → ∃ ov, (x, ov) ∈ ρ
  | _, _, .head => ⟨_, .head _⟩
  | _, _, .tail u => let ⟨ov, h⟩ := u.old; ⟨ov, .tail _ h⟩
theorem UpdL.mem {x : Str} {v : MV} {ρ ρ' : Loc} (u : UpdL x v ρ ρ') : (ρ.map (·.1)).Nodup → ∀ p ∈ ρ', p = (x, some v) ∨ (p ∈ ρ ∧ p.1 ≠ x) := by
  induction u with
  | head =>
    intro nd p hp
    rcases List.mem_cons.mp hp with rfl | hp
    · exact .inl rfl
    · exact .inr ⟨.tail _ hp, fun e => (List.nodup_cons.mp nd).1 (List.mem_map.mpr ⟨p, hp, e⟩)⟩
  | tail u ih =>
    intro nd p hp
    have nd' := List.nodup_cons.mp nd
    rcases List.mem_cons.mp hp with rfl | hp
    · refine .inr ⟨.head _, fun e => nd'.1 ?_⟩
      obtain ⟨ov, h⟩ := u.old
      exact List.mem_map.mpr ⟨_, h, e.symm⟩
    · exact (ih nd'.2 p hp).imp id fun q => ⟨.tail _ q.1, q.2⟩
theorem UpdL.dbg {x : Str} {v : MV} {ρ ρ' : Loc} (u : UpdL x v ρ ρ') (h : ∀ p ∈ ρ, (p.1 == ("__debug__" : Str)) = false) : ∀ p ∈ ρ', (p.1 == ("__debug__" : Str)) = false := by
  intro p hp
  have : p.1 ∈ ρ.map (·.1) := u.keys ▸ List.mem_map.mpr ⟨p, hp, rfl⟩
  obtain ⟨q, hq, e⟩ := List.mem_map.mp this
  rw [← e]; exact h q hq
theorem cell_name {cs : List (Str × Addr)} (hp : cs.Pairwise fun x y => x.2 ≠ y.2) {n n' : Str} {c : Addr} (h : cs.lookup n = some c) (h' : cs.lookup n' = some c) : n = n' :=
  name_of_addr hp (mem_of_lookup h) (mem_of_lookup h')
section
variable {prog : Program} {w : World} {h₀ : Heap} {d : Nat} {env : Env} {γ : List (Str × MV)} {ρ ρ' : Loc} {σ : List Res}
theorem EV_glob {f : FrS} {P : MV → List Res → Prop} {pos : Pos} {x : Str} {v : MV} (hx : (x, v) ∈ f.γ) (h : P v σ) : EV prog w h₀ d f σ (.Name x pos) P := by
  intro A s Φ F E Q vs N R kk
  have O : FrOk Φ f s.heap := N.rel.head
  obtain ⟨hk, hd, mg, mb, u, hg, hb, hv, r⟩ := O.glo _ hx
  have fin := kk u v _ Φ s.heap s.toks (.refl Φ) N.rel r ⟨σ, rfl, h⟩
  refine Name_function_global O.kind hk ?_ hd
  have hg' := hg.ns N.rel.le
  have hb' := hb.ns N.rel.le
  rw [← O.glob] at hg'
  rw [← O.bi] at hb'
  rcases hv with hv | ⟨hm, hv⟩
  · exact loadGlobal_global hg' hv fin
  · exact loadGlobal_builtin hg' hm hb' hv fin
/-- storing a name of the frame -/
theorem store_name {A : Around} {s : Shared} {Φ : FMap} {F : List Res} {E : Value → Shared → Prop} {Q : Unit → Shared → Prop} {x : Str} {v : MV} {u : Value} (M : Model) (rel : Rel Φ ((fr1 env γ ρ :: σ) ++ F) s.heap) (r : Rep Φ v u) (U : UpdL x v ρ ρ')
    (kk : ∀ h' tk, Rel Φ ((fr1 env γ ρ' :: σ) ++ F) h' → Q () { s with heap := h', toks := tk }) : wpAny M A (storeName env x u) Q E s := by
  have O : FrOk Φ ⟨env, ρ, env.cells.map (·.2), γ, []⟩ s.heap := rel.head
  obtain ⟨ov, hov⟩ := U.old
  obtain ⟨m, hn, hs⟩ := O.ns
  have hp : (env.scope.kind == .class || (env.scope.kind == .module && env.locals != env.globals)) = false := by
    have := O.kind; dsimp only at this; rw [this]; rfl
  rcases hs _ hov with ⟨hl, _⟩ | ⟨hl, c, o, cv, hc, ho, hd, hin, _⟩
  · refine wpAny_storeName_local hl hn (fun h' hn' hsb => kk h' _ ?_) hp
    refine Rel.change (r := fr1 env γ ρ) (r' := fr1 env γ ρ') rel (fun b o hb e => hsb.extBut b o (fun q => hb (by subst q; exact .head _)) e) rfl (fun a ha => ?_) ?_
    · by_cases q : a = env.locals
      · subst q; obtain ⟨o, _, _, ho, _⟩ := hn'; exact ⟨o, ho⟩
      · obtain ⟨o, ho⟩ := rel.live a (List.mem_append_left _ ha); exact ⟨o, hsb.extBut a o q ho⟩
    · have le' : ∀ a o, Φ a = some o → h'.get? a = some o := fun a o q => hsb.extBut a o (fun z => by
        rw [z, rel.off env.locals (List.mem_append_left _ (.head _))] at q; cases q) (rel.le a o q)
      refine ⟨O.kind, O.glob, O.bi, O.glo, U.dbg O.dbg, by have := O.keys; dsimp only at this ⊢; rw [U.keys]; exact this, O.cap, (fun _ h => nomatch h), _, hn', fun p hp' => ?_⟩
      rcases U.mem O.keys p hp' with rfl | ⟨hp', hne⟩
      · exact .inl ⟨hl, fun v' e => by cases e; exact ⟨u, by simp, r⟩⟩
      · have nd := rel.nd
        rcases hs p hp' with ⟨a, b⟩ | ⟨a, c, o, cv, b, d', e, g, i⟩
        · exact .inl ⟨a, fun v' e => by obtain ⟨z, hz, rz⟩ := b v' e; exact ⟨z, by simp [hne, hz], rz⟩⟩
        · refine .inr ⟨a, c, o, cv, b, ?_, e, g, i⟩
          refine hsb.extBut c o (fun q => ?_) d'
          have hcown : c ∈ env.cells.map (·.2) := List.mem_map.mpr ⟨_, mem_of_lookup b, rfl⟩
          rw [foot] at nd
          simp only [List.flatMap_cons, List.cons_append, Res.addrs, List.map_nil, List.append_nil] at nd
          exact (List.nodup_cons.mp nd).1 (List.mem_append_left _ (q ▸ hcown))
  · refine wpAny_storeName_cell O.kind hl hc ⟨o, ho, hd⟩ (fun h' hc' hsb => kk h' s.toks ?_)
    have hcown : c ∈ env.cells.map (·.2) := List.mem_map.mpr ⟨_, mem_of_lookup hc, rfl⟩
    have hcL : c ≠ env.locals := fun q => by
      have nd := rel.nd
      rw [foot] at nd
      simp only [List.flatMap_cons, List.cons_append, Res.addrs, List.map_nil, List.append_nil] at nd
      exact (List.nodup_cons.mp nd).1 (List.mem_append_left _ (q ▸ hcown))
    refine Rel.change (r := fr1 env γ ρ) (r' := fr1 env γ ρ') rel (fun b o hb e => hsb.extBut b o (fun q => hb (by subst q; exact .tail _ (List.mem_append_left _ hcown))) e) rfl (fun a ha => ?_) ?_
    · by_cases q : a = c
      · subst q; obtain ⟨o', ho', _⟩ := hc'; exact ⟨o', ho'⟩
      · obtain ⟨o, ho⟩ := rel.live a (List.mem_append_left _ ha); exact ⟨o, hsb.extBut a o q ho⟩
    · have le' : ∀ a o, Φ a = some o → h'.get? a = some o := fun a o q => hsb.extBut a o (fun z => by
        rw [z, rel.off c (List.mem_append_left _ (.tail _ (List.mem_append_left _ hcown)))] at q; cases q) (rel.le a o q)
      refine ⟨O.kind, O.glob, O.bi, O.glo, U.dbg O.dbg, by have := O.keys; dsimp only at this ⊢; rw [U.keys]; exact this, O.cap, (fun _ h => nomatch h), m, hn.sameBut hsb (Ne.symm hcL), fun p hp' => ?_⟩
      rcases U.mem O.keys p hp' with rfl | ⟨hp', hne⟩
      · obtain ⟨o', ho', hd'⟩ := hc'
        exact .inr ⟨hl, c, o', some u, hc, ho', hd', .inl hcown, fun v' e => by cases e; exact ⟨u, rfl, r⟩⟩
      · rcases hs p hp' with ⟨a, b⟩ | ⟨a, c', o', cv', b, d', e, g, i⟩
        · exact .inl ⟨a, b⟩
        · refine .inr ⟨a, c', o', cv', b, ?_, e, g, i⟩
          refine hsb.extBut c' o' (fun q => ?_) d'
          exact hne (cell_name O.cap b (q ▸ hc))
/-- loading a name of the frame -/
theorem load_name {A : Around} {s : Shared} {Φ : FMap} {F : List Res} {E : Value → Shared → Prop} {Q : Value → Shared → Prop} {x : Str} {v : MV} (M : Model) (rel : Rel Φ ((fr1 env γ ρ :: σ) ++ F) s.heap) (hx : (x, some v) ∈ ρ)
    (kk : ∀ u, Rep Φ v u → Q u s) : wpAny M A (loadName env x) Q E s := by
  have O : FrOk Φ ⟨env, ρ, env.cells.map (·.2), γ, []⟩ s.heap := rel.head
  obtain ⟨m, hn, hs⟩ := O.ns
  rcases hs _ hx with ⟨hl, hv⟩ | ⟨hl, c, o, cv, hc, ho, hd, _, hv⟩
  · obtain ⟨u, hu, r⟩ := hv v rfl
    exact wpAny_loadName_local O.kind hl hn hu (kk u r)
  · obtain ⟨u, hu, r⟩ := hv v rfl
    exact wpAny_loadName_cell O.kind hl hc ⟨o, ho, hu ▸ hd⟩ (kk u r)
variable {P : FL → Loc → List Res → Prop} {pos npos : Pos}
theorem AS_name {x : Str} {v : MV} {P : Loc → List Res → Prop} (U : UpdL x v ρ ρ') (h : P ρ' σ) : AS prog w h₀ d env γ ρ σ (.Name x npos) v P := by
  intro A s Φ F E Q vs N R kk
  obtain ⟨u, rfl, r⟩ := R.one
  refine wpAny_assign_Name (store_name _ N.rel r U fun h' tk rel => ?_)
  exact kk () () _ Φ h' tk (.refl Φ) rel trivial ⟨ρ', σ, rfl, h⟩
def Cn (prog : Program) (w : World) (h₀ : Heap) (d : Nat) (env : Env) (γ : List (Str × MV)) (rest : List Stmt) (P : FL → Loc → List Res → Prop) : FL → Loc → List Res → Prop
  | .next, ρ, σ => XV prog w h₀ d env γ ρ σ rest P
  | fl, ρ, σ => P fl ρ σ
theorem XV_nil (h : P .next ρ σ) : XV prog w h₀ d env γ ρ σ [] P := by
  intro A s Φ F E Q vs N R kk
  exact wpAny_execs_nil (kk _ _ _ Φ s.heap s.toks (.refl Φ) N.rel .next ⟨ρ, σ, rfl, h⟩)
theorem XV_cons {st : Stmt} {rest : List Stmt} (h : X1 prog w h₀ d env γ ρ σ st (Cn prog w h₀ d env γ rest P)) : XV prog w h₀ d env γ ρ σ (st :: rest) P := by
  intro A s Φ F E Q vs N R kk
  refine wpAny_execs_cons (h A s Φ F E _ [] N .nil ?_)
  rintro fl a σ' Φ1 h1 tk1 le1 rel1 rep1 ⟨ρ1, τ, rfl, h⟩
  cases rep1 with
  | next => exact h A _ Φ1 F E _ [] (N.next le1 rel1) .nil fun x m σ3 Φ3 h3 tk3 le3 rel3 rep3 hp => kk x m σ3 Φ3 h3 tk3 (le1.trans le3) rel3 rep3 hp
  | brk => exact kk _ _ _ Φ1 h1 tk1 le1 rel1 .brk ⟨ρ1, τ, rfl, h⟩
  | cont => exact kk _ _ _ Φ1 h1 tk1 le1 rel1 .cont ⟨ρ1, τ, rfl, h⟩
  | ret r => exact kk _ _ _ Φ1 h1 tk1 le1 rel1 (.ret r) ⟨ρ1, τ, rfl, h⟩
theorem X1_mono {ss : Stmt} {P' : FL → Loc → List Res → Prop} (h : X1 prog w h₀ d env γ ρ σ ss P) (k : ∀ fl ρ τ, P fl ρ τ → P' fl ρ τ) : X1 prog w h₀ d env γ ρ σ ss P' :=
  JJ.post h fun b σ' ⟨ρ1, τ, e, hp⟩ => ⟨ρ1, τ, e, k b ρ1 τ hp⟩
noncomputable abbrev fs (env : Env) (γ : List (Str × MV)) (ρ : Loc) : FrS := ⟨env, ρ, env.cells.map (·.2), γ, []⟩
theorem X1_return {e : Expr} (h : EV prog w h₀ d (fs env γ ρ) σ e (fun v σ1 => P (.ret v) ρ σ1)) : X1 prog w h₀ d env γ ρ σ (.Return (some e) pos) P := by
  intro A s Φ F E Q vs N R kk
  refine wpAny_Return_some (h A s Φ F E _ [] N .nil ?_)
  rintro v a σ' Φ1 h1 tk1 le1 rel1 rep1 ⟨τ, rfl, h⟩
  exact kk _ _ _ Φ1 h1 tk1 le1 rel1 (.ret rep1) ⟨ρ, τ, rfl, h⟩
theorem X1_if {t : Expr} {b o : List Stmt} (h : TE prog w h₀ d (fs env γ ρ) σ t (fun x σ1 => (x = true → XV prog w h₀ d env γ ρ σ1 b P) ∧ (x = false → XV prog w h₀ d env γ ρ σ1 o P))) : X1 prog w h₀ d env γ ρ σ (.If t b o pos) P := by
  intro A s Φ F E Q vs N R kk
  refine wpAny_If (h A s Φ F E _ [] N .nil ?_)
  rintro v a σ' Φ1 h1 tk1 le1 rel1 rfl ⟨τ, rfl, h⟩
  cases v with
  | true => exact h.1 rfl A _ Φ1 F E _ [] (N.next le1 rel1) .nil fun x m σ3 Φ3 h3 tk3 le3 rel3 rep3 hp => kk x m σ3 Φ3 h3 tk3 (le1.trans le3) rel3 rep3 hp
  | false => exact h.2 rfl A _ Φ1 F E _ [] (N.next le1 rel1) .nil fun x m σ3 Φ3 h3 tk3 le3 rel3 rep3 hp => kk x m σ3 Φ3 h3 tk3 (le1.trans le3) rel3 rep3 hp
theorem X1_assign {t e : Expr} (h : EV prog w h₀ d (fs env γ ρ) σ e (fun v σ1 => AS prog w h₀ d env γ ρ σ1 t v (fun ρ' σ2 => P .next ρ' σ2)))
    (hs : swapsWithSole [t] e pos.line env = pure false := by rfl) (hw : swappedStores [t] e env = pure none := by rfl) (he : (assignEach [t] env).map (·.2) = [assign t env] := by rfl) : X1 prog w h₀ d env γ ρ σ (.Assign [t] e pos) P := by
  intro A s Φ F E Q vs N R kk
  refine wpAny_Assign_stores (h A s Φ F E _ [] N .nil ?_) hs hw
  rintro v a σ' Φ1 h1 tk1 le1 rel1 rep1 ⟨τ, rfl, h⟩
  rw [he]
  refine h A _ Φ1 F E _ [v] (N.next le1 rel1) (.cons rep1 .nil) ?_
  rintro x m σ3 Φ3 h3 tk3 le3 rel3 rep3 ⟨ρ3, τ3, rfl, hp⟩
  exact kk .next .next _ Φ3 h3 tk3 (le1.trans le3) rel3 .next ⟨ρ3, τ3, rfl, hp⟩
theorem X1_expr {e : Expr} (h : EV prog w h₀ d (fs env γ ρ) σ e (fun v σ1 => v = .none ∧ P .next ρ σ1))
    (hi : interactive env = false := by rfl) (hs : swapsWith e none pos.line env = pure false := by rfl) : X1 prog w h₀ d env γ ρ σ (.Expr e pos) P := by
  intro A s Φ F E Q vs N R kk
  refine wpAny_Expr (h A s Φ F E _ [] N .nil ?_) hi hs
  rintro v a σ' Φ1 h1 tk1 le1 rel1 rep1 ⟨τ, rfl, rfl, h⟩
  (first | obtain ⟨_, rfl⟩ := rep1.inv_int | obtain rfl := rep1.inv_ref | obtain rfl := rep1.inv_none | obtain rfl := rep1.inv_bool | cases rep1)
  exact kk _ _ _ Φ1 h1 tk1 le1 rel1 .next ⟨ρ, τ, rfl, h⟩
theorem X1_aug_name {x : Str} {op : Operator} {e : Expr} {v : MV} (hx : (x, some v) ∈ ρ) (h : EV prog w h₀ d (fs env γ ρ) σ e (fun u σ1 => INP prog w h₀ d σ1 op v u (fun r σ2 => ∃ ρ', UpdL x r ρ ρ' ∧ P .next ρ' σ2))) : X1 prog w h₀ d env γ ρ σ (.AugAssign (.Name x npos) op e pos) P := by
  intro A s Φ F E Q vs N R kk
  refine wpAny_AugAssign_Name (load_name _ N.rel hx fun old rold => ?_)
  refine h A s Φ F E _ [] N .nil ?_
  rintro v a σ' Φ1 h1 tk1 le1 rel1 rep1 ⟨τ, rfl, h⟩
  refine h A _ Φ1 (fr1 env γ ρ :: F) E _ [old, v] (N.next le1 (rel1.perm permF)) (.cons (rold.mono le1) (.cons rep1 .nil)) ?_
  rintro x m σ3 Φ3 h3 tk3 le3 rel3 rep3 ⟨ρ', U, hp⟩
  refine store_name (s := { s with heap := h3, toks := tk3 }) _ (rel3.perm permF.symm) rep3 U fun h4 tk4 rel4 => ?_
  exact kk .next .next _ Φ3 h4 tk4 (le1.trans le3) rel4 .next ⟨ρ', σ3, rfl, hp⟩
/-- stores of several names, in order -/
def ASs (prog : Program) (w : World) (h₀ : Heap) (d : Nat) (env : Env) (γ : List (Str × MV)) (ρ : Loc) (σ : List Res) (ts : List Expr) (ms : List MV) (P : Loc → List Res → Prop) : Prop :=
  JJ prog w h₀ d (fun _ (_ : Unit) (_ : Unit) => True) (fr1 env γ ρ :: σ) ms (fun vs => assignInOrder (ts.map fun t => assign t env) vs) (fun _ σ' => ∃ ρ' τ, σ' = fr1 env γ ρ' :: τ ∧ P ρ' τ)
theorem ASs_nil {P : Loc → List Res → Prop} (h : P ρ σ) : ASs prog w h₀ d env γ ρ σ [] [] P := by
  intro A s Φ F E Q vs N R kk
  cases R.zero
  exact wpAny_pure (kk () () _ Φ s.heap s.toks (.refl Φ) N.rel trivial ⟨ρ, σ, rfl, h⟩)
theorem ASs_cons {t : Expr} {ts : List Expr} {m : MV} {ms : List MV} {P : Loc → List Res → Prop} (h : AS prog w h₀ d env γ ρ σ t m (fun ρ1 σ1 => ASs prog w h₀ d env γ ρ1 σ1 ts ms P)) : ASs prog w h₀ d env γ ρ σ (t :: ts) (m :: ms) P := by
  intro A s Φ F E Q vs N R kk
  cases R with | cons r R => ?_
  rename_i v vs
  show wpAny _ A (do holding vs (assign t env v); assignInOrder (ts.map fun t => assign t env) vs) Q E s
  refine wpAny_bind (wpAny_holding (h A s Φ F E _ [v] N (.cons r .nil) ?_))
  rintro x m σ3 Φ3 h3 tk3 le3 rel3 rep3 ⟨ρ3, τ3, rfl, hp⟩
  exact hp A _ Φ3 F E _ vs (N.next le3 rel3) (R.mono le3) fun x m σ4 Φ4 h4 tk4 le4 rel4 rep4 hp => kk x m σ4 Φ4 h4 tk4 (le3.trans le4) rel4 rep4 hp
theorem AS_tuple {ts : List Expr} {k : Nat} {ms : List MV} {P : Loc → List Res → Prop} (h : ASs prog w h₀ d env γ ρ σ ts ms P) (hl : ts.length = ms.length)
    (he : (assignEach ts env).map (·.2) = ts.map (fun t => assign t env) := by rfl) (hs : (assignEach ts env).findIdx? (·.1) = none := by rfl) : AS prog w h₀ d env γ ρ σ (.Tuple ts k pos) (.tup ms) P := by
  intro A s Φ F E Q vs N R kk
  obtain ⟨u, rfl, r⟩ := R.one
  cases r with
  | tup ho hc hdat hz rs => ?_
  rename_i vs a o n
  have ht : s.heap.IsTuple a vs.toArray := ⟨o, N.rel.le _ _ ho, by rw [hc], n, hdat⟩
  have hl' : (assignEach ts env).length = vs.toArray.size := by
    rw [← List.length_map (f := (·.2)), he, List.length_map, hl, List.size_toArray, rs.length]
  show wpAny _ A (assign (.Tuple ts k pos) env (.ref a)) Q E s
  refine wpAny_assign_Tuple N.room.hh ht hl' hs fun h' hx => ?_
  rw [he]
  have keep : ∀ b o, s.heap.get? b = some o → h'.get? b = some o := fun b o e => hx b o (Nat.ne_of_lt (Heap.lt_size e)) e
  exact h A _ Φ F E Q vs (N.next (.refl Φ) (N.rel.kept keep)) rs fun x m σ4 Φ4 h4 tk4 le4 rel4 rep4 hp => kk x m σ4 Φ4 h4 tk4 le4 rel4 rep4 hp
end
end Mine
open PySem PySem.W PySem.Calls PyProof.Rows
set_option Elab.async false
set_option maxRecDepth 100000
set_option linter.unusedVariables false
namespace Mine
/-! ## freezing -/
inductive Frz (a : Addr) (fv : MV) : MV → MV → Prop
  | here : Frz a fv (.ref a) fv
  | same (m : MV) : Frz a fv m m
theorem Frz.rep {a : Addr} {fv : MV} {Φ Ψ : FMap} (le : FLe Φ Ψ) (h : Rep Ψ fv (.ref a)) {m m' : MV} {v : Value} (f : Frz a fv m m') (r : Rep Φ m v) : Rep Ψ m' v := by
  cases f with
  | here => rw [r.inv_ref]; exact h
  | same => exact r.mono le
/-- a resource that may be frozen, and the value it becomes -/
inductive FrzR : Res → Addr → MV → Prop
  | list (a : Addr) (xs : List MV) : FrzR (.list a xs) a (.list xs)
  | imap (a : Addr) (f : Int → Option MV) (n : Nat) : FrzR (.imap a f n) a (.imap f)
theorem Rel.freeze {Φ : FMap} {σ : List Res} {h : Heap} {r : Res} {a : Addr} {fv : MV} (x : Rel Φ (r :: σ) h) (f : FrzR r a fv) : ∃ Ψ, FLe Φ Ψ ∧ Rel Ψ σ h ∧ Rep Ψ fv (.ref a) := by
  have hd := x.head
  cases f with
  | list xs =>
    obtain ⟨vs, n, ho, hz, rs⟩ := hd
    have le : FLe Φ (ext1 Φ a (listO vs n)) := ext1_le (x.off a (by rw [foot_cons]; exact .head _))
    exact ⟨_, le, x.freeze1 rfl ho, .list (ext1_self ..) rfl rfl hz (rs.mono le)⟩
  | imap f n =>
    obtain ⟨o, es, g, ho, hm, h1, h2, h3⟩ := hd
    have le : FLe Φ (ext1 Φ a o) := ext1_le (x.off a (by rw [foot_cons]; exact .head _))
    exact ⟨_, le, x.freeze1 rfl ho, .imap (ext1_self ..) ⟨hm.1, hm.2.1⟩ h1 h2 fun k m hk => (h3 k m hk).mono le⟩
section
variable {prog : Program} {w : World} {h₀ : Heap} {d : Nat} {σ : List Res}
/-- dropping a resource -/
theorem JJ.forget {α β : Type} {R : FMap → β → α → Prop} {pre : List Res} {ms : List MV} {t : List Value → Sem α} {post : β → List Res → Prop}
    (h : JJ prog w h₀ d R pre ms t (fun m σ' => ∃ r τ, σ'.Perm (r :: τ) ∧ post m τ)) : JJ prog w h₀ d R pre ms t post := by
  intro A s Φ F E Q vs N R kk
  refine h A s Φ F E Q vs N R ?_
  rintro v m σ' Φ1 h1 tk1 le1 rel1 rep1 ⟨r, τ, hp, hpost⟩
  exact kk v m τ Φ1 h1 tk1 le1 (rel1.perm (hp.append_right F)).drop rep1 hpost
/-- locals with a frozen value in the place of a reference -/
inductive FrzL (a : Addr) (fv : MV) : Loc → Loc → Prop
  | nil : FrzL a fv [] []
  | keep {p : Str × Option MV} {ρ ρ' : Loc} : FrzL a fv ρ ρ' → FrzL a fv (p :: ρ) (p :: ρ')
  | put {x : Str} {m m' : MV} {ρ ρ' : Loc} : Frz a fv m m' → FrzL a fv ρ ρ' → FrzL a fv ((x, some m) :: ρ) ((x, some m') :: ρ')
theorem FrzL.keys {a : Addr} {fv : MV} {ρ ρ' : Loc} (u : FrzL a fv ρ ρ') : ρ'.map (·.1) = ρ.map (·.1) := by
  induction u with
  | nil => rfl
  | keep _ ih => simp [ih]
  | put _ _ ih => simp [ih]
theorem FrzL.back {a : Addr} {fv : MV} {ρ ρ' : Loc} (u : FrzL a fv ρ ρ') : ∀ {x : Str} {ov : Option MV}, (x, ov) ∈ ρ' → (x, ov) ∈ ρ ∨ ∃ m m', ov = some m' ∧ (x, some m) ∈ ρ ∧ Frz a fv m m' := by
  induction u with
  | nil => intro x ov h; exact absurd h List.not_mem_nil
  | keep _ ih =>
    intro x ov h
    rcases List.mem_cons.mp h with rfl | h
    · exact .inl (.head _)
    · exact (ih h).imp (.tail _) fun q => q.imp fun m => Exists.imp fun m' q => ⟨q.1, .tail _ q.2.1, q.2.2⟩
  | put g _ ih =>
    intro x ov h
    rcases List.mem_cons.mp h with e | h
    · cases e; exact .inr ⟨_, _, rfl, .head _, g⟩
    · exact (ih h).imp (.tail _) fun q => q.imp fun m => Exists.imp fun m' q => ⟨q.1, .tail _ q.2.1, q.2.2⟩
theorem FrOk.frz {Φ Ψ : FMap} {a : Addr} {fv : MV} {env : Env} {ρ ρ' : Loc} {own : List Addr} {γ : List (Str × MV)} {h : Heap} {kp : List (Addr × Obj)} (O : FrOk Φ ⟨env, ρ, own, γ, kp⟩ h) (le : FLe Φ Ψ) (r : Rep Ψ fv (.ref a)) (f : FrzL a fv ρ ρ') : FrOk Ψ ⟨env, ρ', own, γ, kp⟩ h := by
  obtain ⟨k, g1, g2, g3, db, q, cp, kpd, m, hn, b⟩ := O
  refine ⟨k, g1, g2, fun p hp => ⟨(g3 p hp).1, (g3 p hp).2.1, (g3 p hp).2.2.mono le⟩, fun p hp => ?_, by dsimp only at q ⊢; rw [f.keys]; exact q, cp, kpd, m, hn, fun p hp => ?_⟩
  · have : p.1 ∈ ρ.map (·.1) := f.keys ▸ List.mem_map.mpr ⟨p, hp, rfl⟩
    obtain ⟨q', hq, e⟩ := List.mem_map.mp this
    rw [← e]; exact db q' hq
  · obtain ⟨x, ov⟩ := p
    rcases f.back hp with hp | ⟨m1, m2, rfl, hp, fz⟩
    · exact (b _ hp).mono le
    · rcases b _ hp with ⟨a, b⟩ | ⟨a, c, o, cv, b, d', e, g, i⟩
      · obtain ⟨u, hu, ru⟩ := b m1 rfl
        exact .inl ⟨a, fun v e => by cases e; exact ⟨u, hu, fz.rep le r ru⟩⟩
      · obtain ⟨u, hu, ru⟩ := i m1 rfl
        exact .inr ⟨a, c, o, cv, b, d', e, g.imp id (Or.imp (le _ _) id), fun v e => by cases e; exact ⟨u, hu, fz.rep le r ru⟩⟩
theorem XV_freeze {env : Env} {γ : List (Str × MV)} {ρ ρ' : Loc} {ss : List Stmt} {P : FL → Loc → List Res → Prop} {r : Res} {a : Addr} {fv : MV} {τ : List Res} (hp : σ.Perm (r :: τ)) (hf : FrzR r a fv) (hl : FrzL a fv ρ ρ')
    (h : XV prog w h₀ d env γ ρ' τ ss P) : XV prog w h₀ d env γ ρ σ ss P := by
  intro A s Φ F E Q vs N R kk
  have p1 : ((fr1 env γ ρ :: σ) ++ F).Perm (r :: ((fr1 env γ ρ :: τ) ++ F)) := ((List.Perm.cons _ hp).trans (List.Perm.swap _ _ _)).append_right F
  obtain ⟨Ψ, le, rel, rep⟩ := (N.rel.perm p1).freeze hf
  have rel' : Rel Ψ ((fr1 env γ ρ' :: τ) ++ F) s.heap := by
    refine Rel.change (r := fr1 env γ ρ) (r' := fr1 env γ ρ') rel (fun b o _ e => e) rfl (fun a ha => rel.live a (List.mem_append_left _ ha)) ?_
    exact FrOk.frz (rel.head (r := fr1 env γ ρ)) (.refl Ψ) rep hl
  exact h A s Ψ F E Q vs (N.next le rel') (R.mono le) fun x m σ4 Φ4 h4 tk4 le4 rel4 rep4 hp => kk x m σ4 Φ4 h4 tk4 (le.trans le4) rel4 rep4 hp
end
/-! ## calls of defs -/
theorem bindL_keep {kindOf : Str → Option NameKind} {x : Str} : ∀ {bs : List (Str × Value)} {m : Str → Option Value}, x ∉ bs.map (·.1) → bindL kindOf bs m x = m x
  | [], _, _ => rfl
  | (n, v) :: r, m, h => by
    unfold bindL
    have h1 : ¬ x = n := fun e => h (by simp [e])
    have h2 : x ∉ r.map (·.1) := fun e => h (by simp at e ⊢; exact .inr e)
    rw [bindL_keep h2]
    split
    · simp [h1]
    · rfl
theorem bindL_get {kindOf : Str → Option NameKind} {x : Str} {v : Value} : ∀ {bs : List (Str × Value)} {m : Str → Option Value}, (bs.map (·.1)).Nodup → (x, v) ∈ bs → kindOf x = some .local → bindL kindOf bs m x = some v
  | (n, u) :: r, m, nd, h, hk => by
    unfold bindL
    have nd' := List.nodup_cons.mp nd
    rcases List.mem_cons.mp h with e | h
    · cases e; rw [bindL_keep nd'.1, if_pos hk]; simp
    · exact bindL_get nd'.2 h hk
theorem bindC_keep {kindOf : Str → Option NameKind} {x : Str} : ∀ {bs : List (Str × Value)} {m : Str → Option Value}, x ∉ bs.map (·.1) → bindC kindOf bs m x = m x
  | [], _, _ => rfl
  | (n, v) :: r, m, h => by
    unfold bindC
    have h1 : ¬ x = n := fun e => h (by simp [e])
    have h2 : x ∉ r.map (·.1) := fun e => h (by simp at e ⊢; exact .inr e)
    rw [bindC_keep h2]
    split
    · rfl
    · simp [h1]
theorem bindC_get {kindOf : Str → Option NameKind} {x : Str} {v : Value} : ∀ {bs : List (Str × Value)} {m : Str → Option Value}, (bs.map (·.1)).Nodup → (x, v) ∈ bs → ¬ kindOf x = some .local → bindC kindOf bs m x = some v
  | (n, u) :: r, m, nd, h, hk => by
    unfold bindC
    have nd' := List.nodup_cons.mp nd
    rcases List.mem_cons.mp h with e | h
    · cases e; rw [bindC_keep nd'.1, if_neg hk]; simp
    · exact bindC_get nd'.2 h hk
theorem cellsFrom_acc {x : Str} : ∀ (names : List (Str × NameKind)) (n : Nat) (acc : List (Str × Addr)), (acc.lookup x).isSome = true → ((cellsFrom n names acc).lookup x).isSome = true
  | [], _, _, h => h
  | (y, k) :: r, n, acc, h => by
    unfold cellsFrom
    split
    · refine cellsFrom_acc r _ _ ?_
      rw [List.lookup_cons]; split
      · rfl
      · exact h
    · exact cellsFrom_acc r _ _ h
theorem cellsFrom_has {x : Str} : ∀ (names : List (Str × NameKind)) (n : Nat) (acc : List (Str × Addr)), names.lookup x = some .cell → ((cellsFrom n names acc).lookup x).isSome = true
  | [], _, _, h => by simp at h
  | (y, k) :: r, n, acc, h => by
    unfold cellsFrom
    rw [List.lookup_cons] at h
    split at h
    · rename_i e
      cases h
      rw [if_pos (by rfl)]
      refine cellsFrom_acc r _ _ ?_
      rw [List.lookup_cons, e]; rfl
    · split
      · exact cellsFrom_has r _ _ h
      · exact cellsFrom_has r _ _ h
theorem cellsFrom_nodup : ∀ (names : List (Str × NameKind)) (n : Nat) (acc : List (Str × Addr)), (acc.map (·.1)).Nodup → (names.map (·.1)).Nodup → (∀ x ∈ names.map (·.1), x ∉ acc.map (·.1)) → ((cellsFrom n names acc).map (·.1)).Nodup
  | [], _, _, h, _, _ => h
  | (y, k) :: r, n, acc, h, nd, dj => by
    have nd' := List.nodup_cons.mp nd
    unfold cellsFrom
    split
    · refine cellsFrom_nodup r _ _ (List.nodup_cons.mpr ⟨dj y (.head _), h⟩) nd'.2 fun x hx hm => ?_
      rcases List.mem_cons.mp hm with rfl | hm
      · exact nd'.1 hx
      · exact dj x (.tail _ hx) hm
    · exact cellsFrom_nodup r _ _ h nd'.2 fun x hx => dj x (.tail _ hx)
theorem lookup_of_mem {cs : List (Str × Addr)} (nd : (cs.map (·.1)).Nodup) {n : Str} {c : Addr} (h : (n, c) ∈ cs) : cs.lookup n = some c := by
  induction cs with
  | nil => cases h
  | cons p r ih =>
    have nd' := List.nodup_cons.mp nd
    obtain ⟨m, e⟩ := p
    rw [List.lookup_cons]
    rcases List.mem_cons.mp h with q | q
    · cases q; simp
    · have hne : (n == m) = false := by
        rw [beq_eq_false_iff_ne]; rintro rfl
        exact nd'.1 (List.mem_map.mpr ⟨_, q, rfl⟩)
      rw [hne]; exact ih nd'.2 q
structure FnIs (h₀ : Heap) (a : Addr) (fd : FuncData) : Prop where
  obj : ∃ o, h₀.get? a = some o ∧ o.data = .func fd
  code : h₀.CodeRec fd.code fd.qualname
  glob : fd.globals = mainGlobals
  bi : fd.builtins = builtinsNs
  clo : fd.closure = []
noncomputable def okFrame (names : List (Str × NameKind)) (ls gs : List Str) : Bool :=
  (ls.all fun x => (names.lookup x == some .local || names.lookup x == some .cell) && !(x == ("__debug__" : Str))) && decide ls.Nodup && decide (names.map (·.1)).Nodup && gs.all fun x => names.lookup x == some .globalImplicit && !(x == ("__debug__" : Str))
noncomputable def retV : FL → MV
  | .ret v => v
  | _ => .none
noncomputable def loc0 (ps : List Str) (args : List MV) (rest : List Str) : Loc := ps.zip (args.map some) ++ rest.map fun x => (x, none)
theorem loc0_keys {ps : List Str} {args : List MV} {rest : List Str} (h : args.length = ps.length) : (loc0 ps args rest).map (·.1) = ps ++ rest := by
  unfold loc0
  rw [List.map_append, List.map_map, List.map_fst_zip (by simp [h])]
  congr 1
  simp [Function.comp_def]
section
variable {prog : Program} {w : World} {h₀ : Heap} {d : Nat} {σ : List Res}
theorem fresh_get {h : Heap} {a : Addr} (ha : h.objs.size ≤ a) : h.get? a = none := by
  cases e : h.get? a with
  | none => rfl
  | some o => exact absurd (Heap.lt_size e) (Nat.not_lt.mpr ha)
theorem Rep.ext_inv {Φ : FMap} {u v : Value} (h : Rep Φ (.ext u) v) : v = u := by cases h; rfl
theorem mem_zip_reps {Φ : FMap} {x : Str} {v : MV} : ∀ {ps : List Str} {ms : List MV} {vs : List Value}, Reps Φ ms vs → (x, some v) ∈ ps.zip (ms.map some) → ∃ u, (x, u) ∈ ps.zip vs ∧ Rep Φ v u
  | [], _, _, _, h => by simp at h
  | _ :: _, _, _, .nil, h => by simp at h
  | p :: ps, _, _, .cons (m := m) (v := v') r rs, h => by
    simp only [List.map_cons, List.zip_cons_cons] at h
    rcases List.mem_cons.mp h with e | h
    · cases e; exact ⟨v', .head _, r⟩
    · obtain ⟨u, h1, h2⟩ := mem_zip_reps rs h
      exact ⟨u, .tail _ h1, h2⟩
theorem enter_rel {fd : FuncData} {a : Addr} {args : List MV} (H : FnIs h₀ a fd) (ps rest : List Str) (γ : List (Str × MV))
    (hγ : ∀ p ∈ γ, GlobF h₀.get? p.1 p.2) (hlen : args.length = ps.length) (ok : okFrame fd.scope.names (ps ++ rest) (γ.map (·.1)) = true) (hk : fd.scope.kind = .function)
    {A : Around} {s s₁ : Shared} {Φ : FMap} {F : List Res} {vals : List Value} (N : Now h₀ (d + 1) A Φ (σ ++ F) s.heap) (R : Reps Φ args vals)
    (X : InCallC s (callEnvC fd s.heap.objs.size a).locals (bindL (callEnvC fd s.heap.objs.size a).kindOf (ps.zip vals) fun _ => none) (callEnvC fd s.heap.objs.size a).cells (bindC (callEnvC fd s.heap.objs.size a).kindOf (ps.zip vals) fun _ => none) s₁) :
    ∃ h₁ tk, s₁ = { s with heap := h₁, toks := tk } ∧ Rel Φ (fr1 (callEnvC fd s.heap.objs.size a) γ (loc0 ps args rest) :: (σ ++ F)) h₁ := by
  simp only [okFrame, Bool.and_eq_true, List.all_eq_true, Bool.or_eq_true, beq_iff_eq, Bool.not_eq_true', decide_eq_true_eq] at ok
  obtain ⟨⟨⟨okl, nd⟩, ndn⟩, okg⟩ := ok
  have hlen' : vals.length = ps.length := R.length.trans hlen
  have hkeys : (ps.zip vals).map (·.1) = ps := List.map_fst_zip (by lia)
  obtain ⟨h₁, tk, rfl, keep⟩ := X.done
  refine ⟨h₁, tk, rfl, ?_⟩
  have X1 := X.toInCall.ns
  have X2 := X.cell
  have X3 := X.apart
  have X4 := X.above
  generalize hL : s.heap.objs.size = L at *
  have addr : ∀ b ∈ (fr1 (callEnvC fd L a) γ (loc0 ps args rest)).addrs, s.heap.get? b = none ∧ ∃ o, h₁.get? b = some o := by
    intro b hb'
    rcases List.mem_cons.mp hb' with rfl | hb'
    · obtain ⟨o, _, _, ho, _⟩ := X1
      exact ⟨fresh_get (by rw [hL]; exact Nat.le_refl _), o, ho⟩
    · obtain ⟨p, hp, rfl⟩ := List.mem_map.mp ((List.mem_append.mp hb').resolve_right (fun h => nomatch h))
      have hlt := X4 p.1 p.2 hp
      refine ⟨fresh_get (by rw [hL]; exact Nat.le_of_lt hlt), ?_⟩
      obtain ⟨o, ho, _⟩ := X2 p.1 p.2 (lookup_of_mem (cellsFrom_nodup fd.scope.names (L + 1) [] List.nodup_nil ndn (fun _ _ h => by cases h)) hp)
      exact ⟨o, ho⟩
  refine N.rel.push_res keep ?_ (fun b hb => (addr b hb).1) (fun b hb => (addr b hb).2) ?_
  · refine List.nodup_cons.mpr ⟨fun hm => ?_, ?_⟩
    · obtain ⟨p, hp, e⟩ := List.mem_map.mp ((List.mem_append.mp hm).resolve_right (fun h => nomatch h))
      exact Nat.lt_irrefl _ (by have := X4 p.1 p.2 hp; rw [e] at this; exact this)
    · have e := List.pairwise_map.mpr X3
      rw [← List.append_nil (List.map _ _)] at e
      exact e
  · refine ⟨hk, H.glob, H.bi, fun p hp => ⟨(okg p.1 (List.mem_map.mpr ⟨p, hp, rfl⟩)).1, (okg p.1 (List.mem_map.mpr ⟨p, hp, rfl⟩)).2, (hγ p hp).mono N.base⟩, fun p hp => ?_, ?_, X3, (fun _ h => nomatch h), _, X1, fun p hp => ?_⟩
    · have : p.1 ∈ (loc0 ps args rest).map (·.1) := List.mem_map.mpr ⟨p, hp, rfl⟩
      rw [loc0_keys hlen] at this
      exact (okl _ this).2
    · show ((loc0 ps args rest).map (·.1)).Nodup
      rw [loc0_keys hlen]; exact nd
    · have hin : p.1 ∈ ps ++ rest := by rw [← loc0_keys (args := args) hlen]; exact List.mem_map.mpr ⟨p, hp, rfl⟩
      have val : ∀ v, p.2 = some v → ∃ u, (p.1, u) ∈ ps.zip vals ∧ Rep Φ v u := by
        intro v hv
        obtain ⟨x, ov⟩ := p
        dsimp only at hv; subst hv
        rcases List.mem_append.mp hp with hp | hp
        · exact mem_zip_reps R hp
        · obtain ⟨y, _, e⟩ := List.mem_map.mp hp; cases e
      have ndz : ((ps.zip vals).map (·.1)).Nodup := by rw [hkeys]; exact (List.nodup_append.mp nd).1
      rcases (okl p.1 hin).1 with hloc | hcell
      · refine .inl ⟨hloc, fun v hv => ?_⟩
        obtain ⟨u, hu, r⟩ := val v hv
        exact ⟨u, bindL_get ndz hu hloc, r⟩
      · obtain ⟨c, hc⟩ := Option.isSome_iff_exists.mp (cellsFrom_has (x := p.1) fd.scope.names (L + 1) [] hcell)
        obtain ⟨oc, hoc, hocd⟩ := X2 p.1 c hc
        refine .inr ⟨hcell, c, oc, _, hc, hoc, hocd, .inl (List.mem_map.mpr ⟨_, mem_of_lookup hc, rfl⟩), fun v hv => ?_⟩
        obtain ⟨u, hu, r⟩ := val v hv
        exact ⟨u, bindC_get ndz hu (fun e => by have e' : fd.scope.names.lookup p.1 = some .local := e; rw [hcell] at e'; cases e'), r⟩
theorem code_fn {fd : FuncData} {a : Addr} {body : List Stmt} {args : List MV} {P : MV → List Res → Prop} (H : FnIs h₀ a fd) (hl : h₀.NoLimit) (hbody : fd.body = .stmts body) (ps rest : List Str) (γ : List (Str × MV))
    (hγ : ∀ p ∈ γ, GlobF h₀.get? p.1 p.2) (hlen : args.length = ps.length) (hb : ∀ vs : List Value, vs.length = ps.length → bindArgs fd ⟨vs, []⟩ = pure (ps.zip vs))
    (ok : okFrame fd.scope.names (ps ++ rest) (γ.map (·.1)) = true)
    (h : ∀ L, XV prog w h₀ d (callEnvC fd L a) γ (loc0 ps args rest) σ body (fun fl _ σ' => P (retV fl) σ'))
    (hco : fd.scope.isCoroutine = false := by rfl) (hgen : fd.scope.isGenerator = false := by rfl) (hk : fd.scope.kind = .function := by rfl) {A : Around} {s : Shared} {Φ : FMap} {F : List Res} {vals : List Value} {RR : Result → Shared → Prop} (N : Now h₀ (d + 1) A Φ (σ ++ F) s.heap) (R : Reps Φ args vals)
    (kk : ∀ v m σ' Φ' h' tk, FLe Φ Φ' → Rel Φ' (σ' ++ F) h' → Rep Φ' m v → P m σ' → RR (.ok (.ret v)) { s with heap := h', toks := tk }) : codeAny (model prog w) A (.call (.ref a) ⟨vals, []⟩) RR s := by
  obtain ⟨o, ho, hdat⟩ := H.obj
  have ok0 := ok
  simp only [okFrame, Bool.and_eq_true, List.all_eq_true, Bool.or_eq_true, beq_iff_eq, Bool.not_eq_true', decide_eq_true_eq] at ok
  obtain ⟨⟨⟨okl, nd⟩, ndn⟩, okg⟩ := ok
  have hlen' : vals.length = ps.length := R.length.trans hlen
  have hkeys : (ps.zip vals).map (·.1) = ps := List.map_fst_zip (by lia)
  have hroom : A.depth < recursionLimit := by have := N.room.dep; lia
  have hkind : ∀ x ∈ ps.zip vals, fd.scope.names.lookup x.1 = some .local ∨ (fd.scope.names.lookup x.1 = some .cell ∧ ((cellsFrom (s.heap.objs.size + 1) fd.scope.names []).lookup x.1).isSome = true) := by
    intro x hx
    have hx' : x.1 ∈ ps := hkeys ▸ List.mem_map.mpr ⟨x, hx, rfl⟩
    rcases (okl x.1 (List.mem_append_left _ hx')).1 with h | h
    · exact .inl h
    · exact .inr ⟨h, cellsFrom_has _ _ _ h⟩
  refine codeAny_call_cells (fd := fd) hroom (N.heap _ _ ho) hdat (hl.keeps N.heap) (H.code.keeps N.heap) hbody (hb vals hlen') H.clo hkind (fun s₁ X => ?_) hco hgen hk
  obtain ⟨h₁, tk, rfl, rel1⟩ := enter_rel H ps rest γ hγ hlen ok0 hk N R X
  generalize hL : s.heap.objs.size = L at *
  have room' : Room (A.deeper (callEnvC fd L a)) d := ⟨N.room.hh, by have := N.room.dep; show A.depth + 1 + d ≤ _; lia, by have := N.room.un; show A.units + 3 + 20 * d ≤ _; lia, N.room.gd⟩
  refine h L (A.deeper (callEnvC fd L a)) { s with heap := h₁, toks := tk } Φ F _ _ [] ⟨room', N.base, rel1⟩ .nil ?_
  rintro f fl σ' Φ2 h2 tk2 le2 rel2 rep2 ⟨ρ2, τ, rfl, hp⟩
  have rel3 : Rel Φ2 (τ ++ F) h2 := rel2.drop
  cases rep2 with
  | next => exact kk .none .none τ Φ2 h2 tk2 le2 rel3 .none hp
  | brk => exact kk .none .none τ Φ2 h2 tk2 le2 rel3 .none hp
  | cont => exact kk .none .none τ Φ2 h2 tk2 le2 rel3 .none hp
  | ret r => exact kk _ _ τ Φ2 h2 tk2 le2 rel3 r hp
theorem CALL_fn {fd : FuncData} {a : Addr} {body : List Stmt} {args : List MV} {P : MV → List Res → Prop} (H : FnIs h₀ a fd) (hl : h₀.NoLimit) (hbody : fd.body = .stmts body) (ps rest : List Str) (γ : List (Str × MV))
    (hγ : ∀ p ∈ γ, GlobF h₀.get? p.1 p.2) (hlen : args.length = ps.length) (hb : ∀ vs : List Value, vs.length = ps.length → bindArgs fd ⟨vs, []⟩ = pure (ps.zip vs))
    (ok : okFrame fd.scope.names (ps ++ rest) (γ.map (·.1)) = true)
    (h : ∀ L, XV prog w h₀ d (callEnvC fd L a) γ (loc0 ps args rest) σ body (fun fl _ σ' => P (retV fl) σ'))
    (hco : fd.scope.isCoroutine = false := by rfl) (hgen : fd.scope.isGenerator = false := by rfl) (hk : fd.scope.kind = .function := by rfl) : CALL prog w h₀ (d + 1) σ (.ext (.ref a)) args P := by
  intro A s Φ F E Q vs N R kk
  cases R with | cons r0 R => ?_
  rename_i fv vals
  cases r0.ext_inv
  show wpAny _ A (call (.ref a) vals) Q E s
  exact wpAny_call (code_fn H hl hbody ps rest γ hγ hlen hb ok h hco hgen hk N R kk)
end
end Mine
open PySem PySem.W PySem.Calls PyProof.Rows
set_option Elab.async false
set_option maxRecDepth 100000
set_option linter.unusedVariables false
namespace Mine
/-! ## call expressions -/
def Kp (h₀ : Heap) (u : Value) : Prop := ∀ (M : Model) (h : Heap), (∀ a o, h₀.get? a = some o → h.get? a = some o) → ∃ k, (k = Keeper.frame ∨ k = Keeper.machine ∨ k = Keeper.boundFrame) ∧ Looks M h (keeperOf u) k
theorem Kp_builtin {h₀ : Heap} {id : String} : Kp h₀ (.builtin id) := fun M h _ => ⟨.machine, .inr (.inl rfl), Looks.of_pure rfl⟩
theorem Kp_type {h₀ : Heap} {id : String} : Kp h₀ (.type id) := fun M h _ => ⟨.machine, .inr (.inl rfl), Looks.of_pure rfl⟩
theorem Kp_fn {h₀ : Heap} {a : Addr} {fd : FuncData} (H : FnIs h₀ a fd) : Kp h₀ (.ref a) := fun M h k => by
  obtain ⟨o, ho, hd⟩ := H.obj
  refine ⟨.frame, .inl rfl, fun A Q E s k' q => ?_⟩
  unfold keeperOf
  refine wpAny_bind (wpAny_load (k' _ _ (k _ _ ho)) ?_)
  rw [hd]
  exact wpAny_pure q
section
variable {prog : Program} {w : World} {h₀ : Heap} {d : Nat} {f : FrS} {σ : List Res} {P : MV → List Res → Prop} {pos apos : Pos}
theorem EV_call0 {func : Expr} {u : Value} (hk : Kp h₀ u) (h : EV prog w h₀ d f σ func (fun v σ1 => v = .ext u ∧ CALL prog w h₀ d σ1 (.ext u) [] P))
    (he : ∀ env, eval (.Call func [] [] pos) env = (do callWith pos (← eval func env) [] (backTo pos (starEach [] env)) (backToKw pos (keywordEach [] env))) := by intro _; rfl) : EV prog w h₀ d f σ (.Call func [] [] pos) P := by
  intro A s Φ F E Q vs N R kk
  rw [he]
  refine wpAny_bind (h A s Φ F E _ [] N .nil ?_)
  rintro v a σ' Φ1 h1 tk1 le1 rel1 rep1 ⟨τ, rfl, rfl, h⟩
  cases rep1.ext_inv
  have N1 := N.next le1 rel1
  refine callWith_of (P := fun h => ∀ a o, h₀.get? a = some o → h.get? a = some o) rfl (fun h hh => hk _ h hh) (CallRoads_none ?_)
  refine ⟨N1.heap, ?_⟩
  refine h A _ Φ1 (.fr f :: F) E _ [u] (N1.perm permF) (.cons rep1 .nil) ?_
  intro x m σ3 Φ3 h3 tk3 le3 rel3 rep3 hp
  exact kk x m _ Φ3 h3 tk3 (le1.trans le3) (rel3.perm permF.symm) rep3 ⟨σ3, rfl, hp⟩
where
  CallRoads_none {M : Model} {A : Around} {E : Value → Shared → Prop} {s : Shared} {f : Value} {Q : Args → Shared → Prop} (h : Q ⟨[], []⟩ s) : wpAny M A (evalArgs f true [] []) Q E s := PyProof.Rows.evalArgs_none h
theorem EV_call {func e : Expr} {es : List Expr} {u : Value} (hk : Kp h₀ u) (h : EV prog w h₀ d f σ func (fun v σ1 => v = .ext u ∧ EVs prog w h₀ d f σ1 pos (e :: es) (fun ms σ2 => CALL prog w h₀ d σ2 (.ext u) ms P)))
    (he : ∀ env, eval (.Call func (e :: es) [] pos) env = (do callWith pos (← eval func env) [] (backTo pos (starEach (e :: es) env)) (backToKw pos (keywordEach [] env))) := by intro _; rfl)
    (he2 : ∀ env, starEach (e :: es) env = (false, eval e env) :: starEach es env := by intro _; rfl) (hplain : ∀ env, (backTo pos (starEach es env)).any (·.1) = false := by intro _; rfl) : EV prog w h₀ d f σ (.Call func (e :: es) [] pos) P := by
  intro A s Φ F E Q vs N R kk
  rw [he]
  refine wpAny_bind (h A s Φ F E _ [] N .nil ?_)
  rintro v a σ' Φ1 h1 tk1 le1 rel1 rep1 ⟨τ, rfl, rfl, h⟩
  cases rep1.ext_inv
  have N1 := N.next le1 rel1
  have h2 := h A { s with heap := h1, toks := tk1 } Φ1 F E (fun ms s₁ => (∀ a o, h₀.get? a = some o → s₁.heap.get? a = some o) ∧ wpAny (model prog w) A (call u ([] ++ ms)) Q E s₁) [] N1 .nil (by
    rintro ms m σ3 Φ3 h3 tk3 le3 rel3 rep3 ⟨τ3, rfl, h⟩
    have N3 := N1.next le3 rel3
    refine ⟨N3.heap, ?_⟩
    refine h A _ Φ3 (.fr f :: F) E _ (u :: ms) (N3.perm permF) (.cons (rep1.mono le3) rep3) ?_
    intro x m σ4 Φ4 h4 tk4 le4 rel4 rep4 hp
    exact kk x m _ Φ4 h4 tk4 (le1.trans (le3.trans le4)) (rel4.perm permF.symm) rep4 ⟨σ4, rfl, hp⟩)
  show wpAny _ A (callWith pos u [] (backTo pos (starEach (e :: es) f.env)) []) Q E _
  rw [he2] at h2 ⊢
  exact callWith_of (P := fun h => ∀ a o, h₀.get? a = some o → h.get? a = some o) (by show ((false || (backTo pos (starEach es f.env)).any (·.1)) || false) = false; rw [hplain]; rfl) (fun h hh => hk _ h hh) (evalArgs_plain h2)
/-- the method that a name finds on a value -/
def HasMeth (prog : Program) (w : World) (h₀ : Heap) (σ : List Res) (ov : MV) (name : Str) (u : Value) : Prop :=
  ∀ (A : Around) (s : Shared) (Φ : FMap) (F : List Res) (E : Value → Shared → Prop) (Q : Value × List Value → Shared → Prop) (v : Value) (pl : Sem Bool), (∀ a o, h₀.get? a = some o → Φ a = some o) → Rel Φ (σ ++ F) s.heap → Rep Φ ov v →
    Q (u, [v]) s → wpAny (model prog w) A (getMethod v name pl) Q E s
theorem EV_meth {o e : Expr} {es : List Expr} {name : Str} {u : Value} (hk : Kp h₀ u) (h : EV prog w h₀ d f σ o (fun ov σ1 => HasMeth prog w h₀ σ1 ov name u ∧ EVs prog w h₀ d f σ1 pos (e :: es) (fun ms σ2 => CALL prog w h₀ d σ2 (.ext u) (ov :: ms) P)))
    (he : ∀ env, ∃ pl, eval (.Call (.Attribute o name apos) (e :: es) [] pos) env = (do
      let ov ← eval o env
      standAt apos.atName
      let (f, first) ← holding [ov] (getMethod ov name pl)
      callWith pos f first (backTo pos (starEach (e :: es) env)) (backToKw pos (keywordEach [] env))) := by intro _; exact ⟨_, rfl⟩)
    (he2 : ∀ env, starEach (e :: es) env = (false, eval e env) :: starEach es env := by intro _; rfl) (hplain : ∀ env, (backTo pos (starEach es env)).any (·.1) = false := by intro _; rfl) : EV prog w h₀ d f σ (.Call (.Attribute o name apos) (e :: es) [] pos) P := by
  intro A s Φ F E Q vs N R kk
  obtain ⟨pl, he⟩ := he f.env
  rw [he]
  refine wpAny_bind (h A s Φ F E _ [] N .nil ?_)
  rintro v a σ' Φ1 h1 tk1 le1 rel1 rep1 ⟨τ, rfl, hm, h⟩
  have N1 := N.next le1 rel1
  refine wpAny_bind (wpAny_standAt (wpAny_bind (wpAny_holding (hm A _ Φ1 (.fr f :: F) E _ v pl N1.base (rel1.perm permF) rep1 ?_))))
  have h2 := h A { s with heap := h1, toks := tk1 } Φ1 F E (fun ms s₁ => (∀ a o, h₀.get? a = some o → s₁.heap.get? a = some o) ∧ wpAny (model prog w) A (call u ([v] ++ ms)) Q E s₁) [] N1 .nil (by
    rintro ms m σ3 Φ3 h3 tk3 le3 rel3 rep3 ⟨τ3, rfl, h⟩
    have N3 := N1.next le3 rel3
    refine ⟨N3.heap, ?_⟩
    refine h A _ Φ3 (.fr f :: F) E _ (u :: v :: ms) (N3.perm permF) (.cons (.ext u) (.cons (rep1.mono le3) rep3)) ?_
    intro x m σ4 Φ4 h4 tk4 le4 rel4 rep4 hp
    exact kk x m _ Φ4 h4 tk4 (le1.trans (le3.trans le4)) (rel4.perm permF.symm) rep4 ⟨σ4, rfl, hp⟩)
  show wpAny _ A (callWith pos u [v] (backTo pos (starEach (e :: es) f.env)) []) Q E _
  rw [he2] at h2 ⊢
  exact callWith_of (P := fun h => ∀ a o, h₀.get? a = some o → h.get? a = some o) (by show ((false || (backTo pos (starEach es f.env)).any (·.1)) || false) = false; rw [hplain]; rfl) (fun h hh => hk _ h hh) (evalArgs_plain h2)
/-! ## subscripts -/
/-- an item read: what the value is by its kind, and no slice -/
def SUB (prog : Program) (w : World) (h₀ : Heap) (d : Nat) (σ : List Res) (value slice : Expr) (a b : MV) (P : MV → List Res → Prop) : Prop :=
  JJ prog w h₀ d Rep σ [a, b] (fun vs => subscriptTail value slice (vs.getD 0 .none) (vs.getD 1 .none)) P
theorem EV_sub {value slice : Expr} (h : EV prog w h₀ d f σ value (fun a σ1 => EV prog w h₀ d f σ1 slice (fun b σ2 => SUB prog w h₀ d σ2 value slice a b P))) : EV prog w h₀ d f σ (.Subscript value slice pos) P := by
  intro A s Φ F E Q vs N R kk
  refine Subscript_ (h A s Φ F E _ [] N .nil ?_)
  rintro v a σ' Φ1 h1 tk1 le1 rel1 rep1 ⟨τ, rfl, h⟩
  refine h A _ Φ1 F E _ [] (N.next le1 rel1) .nil ?_
  rintro u b σ' Φ2 h2 tk2 le2 rel2 rep2 ⟨τ2, rfl, h⟩
  refine h A _ Φ2 (.fr f :: F) E _ [v, u] (N.next (le1.trans le2) (rel2.perm permF)) (.cons (rep1.mono le2) (.cons rep2 .nil)) ?_
  intro x m σ3 Φ3 h3 tk3 le3 rel3 rep3 hp
  exact kk x m _ Φ3 h3 tk3 (le1.trans (le2.trans le3)) (rel3.perm permF.symm) rep3 ⟨σ3, rfl, hp⟩
/-- v is a list with the items xs: a frozen one or one of the resources -/
def IsL (σ : List Res) (v : MV) (xs : List MV) : Prop := v = .list xs ∨ ∃ a, v = .ref a ∧ .list a xs ∈ σ
theorem IsL.frozen {σ : List Res} {xs : List MV} : IsL σ (.list xs) xs := .inl rfl
theorem IsL.at {σ : List Res} {a : Addr} {xs : List MV} (h : .list a xs ∈ σ) : IsL σ (.ref a) xs := .inr ⟨a, rfl, h⟩
theorem IsL.real {σ F : List Res} {v : MV} {xs : List MV} {Φ : FMap} {h : Heap} {u : Value} (I : IsL σ v xs) (rel : Rel Φ (σ ++ F) h) (r : Rep Φ v u) : ∃ a vs, u = .ref a ∧ h.IsList a vs.toArray ∧ vs.length ≤ sizeLine ∧ Reps Φ xs vs := by
  rcases I with rfl | ⟨a, rfl, hm⟩
  · cases r with
    | list ho hc hd hz rs => exact ⟨_, _, rfl, ⟨_, rel.le _ _ ho, by rw [hc], _, hd⟩, hz, rs⟩
  · (first | obtain ⟨_, rfl⟩ := r.inv_int | obtain rfl := r.inv_ref | obtain rfl := r.inv_none | obtain rfl := r.inv_bool | cases r)
    obtain ⟨vs, n, ho, hz, rs⟩ := rel.res _ (List.mem_append_left _ hm)
    exact ⟨a, vs, rfl, ⟨_, ho, rfl, n, rfl⟩, hz, rs⟩
theorem IsL.exact {σ F : List Res} {v : MV} {xs : List MV} {Φ : FMap} {h : Heap} {u : Value} (I : IsL σ v xs) (rel : Rel Φ (σ ++ F) h) (r : Rep Φ v u) : ∃ a vs n, u = .ref a ∧ h.get? a = some (listO vs n) ∧ vs.length ≤ sizeLine ∧ Reps Φ xs vs := by
  rcases I with rfl | ⟨a, rfl, hm⟩
  · cases r with
    | list ho hc hd hz rs => subst hc; exact ⟨_, _, _, rfl, rel.le _ _ ho, hz, rs⟩
  · (first | obtain ⟨_, rfl⟩ := r.inv_int | obtain rfl := r.inv_ref | obtain rfl := r.inv_none | obtain rfl := r.inv_bool | cases r)
    obtain ⟨vs, n, ho, hz, rs⟩ := rel.res _ (List.mem_append_left _ hm)
    exact ⟨a, vs, n, rfl, ho, hz, rs⟩
theorem Rep.tup_inv {Φ : FMap} {xs : List MV} {u : Value} {h : Heap} (le : ∀ a o, Φ a = some o → h.get? a = some o) (r : Rep Φ (.tup xs) u) : ∃ a vs, u = .ref a ∧ IsTup h a vs.toArray ∧ vs.length ≤ sizeLine ∧ Reps Φ xs vs := by
  cases r with
  | tup ho hc hd hz rs => exact ⟨_, _, rfl, ⟨_, le _ _ ho, by rw [hc], _, hd⟩, hz, rs⟩
theorem sizeLine63 {n : Nat} (h : n ≤ sizeLine) : (n : Int) < 2 ^ 63 := by unfold sizeLine at h; lia
theorem SUB_list {value slice : Expr} {v : MV} {xs : List MV} {i : Int} {m : MV} (I : IsL σ v xs) (h0 : 0 ≤ i) (hx : xs[i.toNat]? = some m) (h : P m σ)
    (hs : ∀ o i, subscripted slice false o i = operate [o, i] (getItem o i) := by intros; with_unfolding_all rfl) : SUB prog w h₀ d σ value slice v (.int i) P := by
  intro A s Φ F E Q vs N R kk
  obtain ⟨u, k, rfl, r1, r2⟩ := R.two
  (first | obtain ⟨_, rfl⟩ := r2.inv_int | obtain rfl := r2.inv_ref | obtain rfl := r2.inv_none | obtain rfl := r2.inv_bool | cases r2)
  obtain ⟨a, ws, rfl, hl, hz, rs⟩ := I.real N.rel r1
  obtain ⟨y, hy, ry⟩ := rs.get hx
  have hlt : i.toNat < ws.length := (List.getElem?_eq_some_iff.mp hy).1
  refine tail_any hl.typeIs slot_list_getitem.lookup (wpAny_getItem_list hl h0 (by have := sizeLine63 hz; lia) (by simpa using hy) ?_) (hs _ _)
  exact kk y m _ Φ s.heap s.toks (.refl Φ) N.rel ry h
theorem SUB_tup {value slice : Expr} {xs : List MV} {i : Int} {m : MV} (h0 : 0 ≤ i) (hx : xs[i.toNat]? = some m) (h : P m σ)
    (hs : ∀ o i, subscripted slice false o i = operate [o, i] (getItem o i) := by intros; with_unfolding_all rfl) : SUB prog w h₀ d σ value slice (.tup xs) (.int i) P := by
  intro A s Φ F E Q vs N R kk
  obtain ⟨u, k, rfl, r1, r2⟩ := R.two
  (first | obtain ⟨_, rfl⟩ := r2.inv_int | obtain rfl := r2.inv_ref | obtain rfl := r2.inv_none | obtain rfl := r2.inv_bool | cases r2)
  obtain ⟨a, ws, rfl, ht, hz, rs⟩ := r1.tup_inv N.rel.le
  obtain ⟨y, hy, ry⟩ := rs.get hx
  have hlt : i.toNat < ws.length := (List.getElem?_eq_some_iff.mp hy).1
  have h63 := sizeLine63 hz
  refine item_tupleT ht (by lia) (by lia) (j := i.toNat) ?_ hy ?_ (hs _ _)
  · unfold seqIndex?
    have e1 : ¬ i < 0 := by lia
    have e2 : i < (ws.length : Int) := by lia
    simp [e1, e2, h0]
  · exact kk y m _ Φ s.heap s.toks (.refl Φ) N.rel ry h
end
end Mine
open PySem PySem.W PySem.Calls PyProof.Rows
set_option Elab.async false
set_option maxRecDepth 100000
set_option linter.unusedVariables false
namespace Mine
section
variable {prog : Program} {w : World} {h₀ : Heap} {d : Nat} {σ : List Res} {P : MV → List Res → Prop} {PB : Bool → List Res → Prop} {a b : Int}
theorem BIN_add  (h : P (.int (a + b)) σ) : BIN prog w h₀ d σ .Add (.int a) (.int b) P := by
  intro A s Φ F E Q vs N R kk
  obtain ⟨u, v, rfl, r1, r2⟩ := R.two
  (first | obtain ⟨_, rfl⟩ := r1.inv_int | obtain rfl := r1.inv_ref | obtain rfl := r1.inv_none | obtain rfl := r1.inv_bool | cases r1); (first | obtain ⟨_, rfl⟩ := r2.inv_int | obtain rfl := r2.inv_ref | obtain rfl := r2.inv_none | obtain rfl := r2.inv_bool | cases r2)
  exact PySem.P.add_int (kk _ (.int _) _ Φ s.heap _ (.refl Φ) N.rel (.int _ _) h)
theorem INP_add  (h : P (.int (a + b)) σ) : INP prog w h₀ d σ .Add (.int a) (.int b) P := by
  intro A s Φ F E Q vs N R kk
  obtain ⟨u, v, rfl, r1, r2⟩ := R.two
  (first | obtain ⟨_, rfl⟩ := r1.inv_int | obtain rfl := r1.inv_ref | obtain rfl := r1.inv_none | obtain rfl := r1.inv_bool | cases r1); (first | obtain ⟨_, rfl⟩ := r2.inv_int | obtain rfl := r2.inv_ref | obtain rfl := r2.inv_none | obtain rfl := r2.inv_bool | cases r2)
  exact PySem.P.iadd_int (kk _ (.int _) _ Φ s.heap _ (.refl Φ) N.rel (.int _ _) h)
theorem BIN_sub  (h : P (.int (a - b)) σ) : BIN prog w h₀ d σ .Sub (.int a) (.int b) P := by
  intro A s Φ F E Q vs N R kk
  obtain ⟨u, v, rfl, r1, r2⟩ := R.two
  (first | obtain ⟨_, rfl⟩ := r1.inv_int | obtain rfl := r1.inv_ref | obtain rfl := r1.inv_none | obtain rfl := r1.inv_bool | cases r1); (first | obtain ⟨_, rfl⟩ := r2.inv_int | obtain rfl := r2.inv_ref | obtain rfl := r2.inv_none | obtain rfl := r2.inv_bool | cases r2)
  exact PySem.P.sub_int (kk _ (.int _) _ Φ s.heap _ (.refl Φ) N.rel (.int _ _) h)
theorem INP_sub  (h : P (.int (a - b)) σ) : INP prog w h₀ d σ .Sub (.int a) (.int b) P := by
  intro A s Φ F E Q vs N R kk
  obtain ⟨u, v, rfl, r1, r2⟩ := R.two
  (first | obtain ⟨_, rfl⟩ := r1.inv_int | obtain rfl := r1.inv_ref | obtain rfl := r1.inv_none | obtain rfl := r1.inv_bool | cases r1); (first | obtain ⟨_, rfl⟩ := r2.inv_int | obtain rfl := r2.inv_ref | obtain rfl := r2.inv_none | obtain rfl := r2.inv_bool | cases r2)
  exact PySem.P.isub_int (kk _ (.int _) _ Φ s.heap _ (.refl Φ) N.rel (.int _ _) h)
theorem CMP_eq  (h : PB (a == b) σ) : CMP prog w h₀ d σ .Eq (.int a) (.int b) PB := by
  intro A s Φ F E Q vs N R kk
  obtain ⟨u, v, rfl, r1, r2⟩ := R.two
  (first | obtain ⟨_, rfl⟩ := r1.inv_int | obtain rfl := r1.inv_ref | obtain rfl := r1.inv_none | obtain rfl := r1.inv_bool | cases r1); (first | obtain ⟨_, rfl⟩ := r2.inv_int | obtain rfl := r2.inv_ref | obtain rfl := r2.inv_none | obtain rfl := r2.inv_bool | cases r2)
  exact PySem.P.eq_int (kk _ _ _ Φ s.heap s.toks (.refl Φ) N.rel rfl h)
theorem CMP_ne  (h : PB (a != b) σ) : CMP prog w h₀ d σ .NotEq (.int a) (.int b) PB := by
  intro A s Φ F E Q vs N R kk
  obtain ⟨u, v, rfl, r1, r2⟩ := R.two
  (first | obtain ⟨_, rfl⟩ := r1.inv_int | obtain rfl := r1.inv_ref | obtain rfl := r1.inv_none | obtain rfl := r1.inv_bool | cases r1); (first | obtain ⟨_, rfl⟩ := r2.inv_int | obtain rfl := r2.inv_ref | obtain rfl := r2.inv_none | obtain rfl := r2.inv_bool | cases r2)
  exact PySem.P.ne_int (kk _ _ _ Φ s.heap s.toks (.refl Φ) N.rel rfl h)
theorem CMP_lt  (h : PB (decide (a < b)) σ) : CMP prog w h₀ d σ .Lt (.int a) (.int b) PB := by
  intro A s Φ F E Q vs N R kk
  obtain ⟨u, v, rfl, r1, r2⟩ := R.two
  (first | obtain ⟨_, rfl⟩ := r1.inv_int | obtain rfl := r1.inv_ref | obtain rfl := r1.inv_none | obtain rfl := r1.inv_bool | cases r1); (first | obtain ⟨_, rfl⟩ := r2.inv_int | obtain rfl := r2.inv_ref | obtain rfl := r2.inv_none | obtain rfl := r2.inv_bool | cases r2)
  exact PySem.P.lt_int (kk _ _ _ Φ s.heap s.toks (.refl Φ) N.rel rfl h)
theorem CMP_le  (h : PB (decide (a ≤ b)) σ) : CMP prog w h₀ d σ .LtE (.int a) (.int b) PB := by
  intro A s Φ F E Q vs N R kk
  obtain ⟨u, v, rfl, r1, r2⟩ := R.two
  (first | obtain ⟨_, rfl⟩ := r1.inv_int | obtain rfl := r1.inv_ref | obtain rfl := r1.inv_none | obtain rfl := r1.inv_bool | cases r1); (first | obtain ⟨_, rfl⟩ := r2.inv_int | obtain rfl := r2.inv_ref | obtain rfl := r2.inv_none | obtain rfl := r2.inv_bool | cases r2)
  exact PySem.P.le_int (kk _ _ _ Φ s.heap s.toks (.refl Φ) N.rel rfl h)
theorem CMP_gt  (h : PB (decide (a > b)) σ) : CMP prog w h₀ d σ .Gt (.int a) (.int b) PB := by
  intro A s Φ F E Q vs N R kk
  obtain ⟨u, v, rfl, r1, r2⟩ := R.two
  (first | obtain ⟨_, rfl⟩ := r1.inv_int | obtain rfl := r1.inv_ref | obtain rfl := r1.inv_none | obtain rfl := r1.inv_bool | cases r1); (first | obtain ⟨_, rfl⟩ := r2.inv_int | obtain rfl := r2.inv_ref | obtain rfl := r2.inv_none | obtain rfl := r2.inv_bool | cases r2)
  exact PySem.P.gt_int (kk _ _ _ Φ s.heap s.toks (.refl Φ) N.rel rfl h)
theorem CMP_ge  (h : PB (decide (a ≥ b)) σ) : CMP prog w h₀ d σ .GtE (.int a) (.int b) PB := by
  intro A s Φ F E Q vs N R kk
  obtain ⟨u, v, rfl, r1, r2⟩ := R.two
  (first | obtain ⟨_, rfl⟩ := r1.inv_int | obtain rfl := r1.inv_ref | obtain rfl := r1.inv_none | obtain rfl := r1.inv_bool | cases r1); (first | obtain ⟨_, rfl⟩ := r2.inv_int | obtain rfl := r2.inv_ref | obtain rfl := r2.inv_none | obtain rfl := r2.inv_bool | cases r2)
  exact PySem.P.ge_int (kk _ _ _ Φ s.heap s.toks (.refl Φ) N.rel rfl h)
theorem BIN_mul (h : P (.int (a * b)) σ) (hm : (-(2 ^ 64) < a ∧ a < 2 ^ 64) ∨ (-(2 ^ 64) < b ∧ b < 2 ^ 64)) : BIN prog w h₀ d σ .Mult (.int a) (.int b) P := by
  intro A s Φ F E Q vs N R kk
  obtain ⟨u, v, rfl, r1, r2⟩ := R.two
  (first | obtain ⟨_, rfl⟩ := r1.inv_int | obtain rfl := r1.inv_ref | obtain rfl := r1.inv_none | obtain rfl := r1.inv_bool | cases r1); (first | obtain ⟨_, rfl⟩ := r2.inv_int | obtain rfl := r2.inv_ref | obtain rfl := r2.inv_none | obtain rfl := r2.inv_bool | cases r2)
  exact PySem.P.mul_int (kk _ (.int _) _ Φ s.heap _ (.refl Φ) N.rel (.int _ _) h) (hm.elim (fun x => IntMulOk.of_left (intBits_le_64 x.1 x.2)) (fun x => IntMulOk.of_right (intBits_le_64 x.1 x.2)))
theorem BIN_mod (hb : b ≠ 0) (h : P (.int (a.fmod b)) σ) : BIN prog w h₀ d σ .Mod (.int a) (.int b) P := by
  intro A s Φ F E Q vs N R kk
  obtain ⟨u, v, rfl, r1, r2⟩ := R.two
  (first | obtain ⟨_, rfl⟩ := r1.inv_int | obtain rfl := r1.inv_ref | obtain rfl := r1.inv_none | obtain rfl := r1.inv_bool | cases r1); (first | obtain ⟨_, rfl⟩ := r2.inv_int | obtain rfl := r2.inv_ref | obtain rfl := r2.inv_none | obtain rfl := r2.inv_bool | cases r2)
  exact PyProof.Rows.mod_int' hb (kk _ (.int _) _ Φ s.heap _ (.refl Φ) N.rel (.int _ _) h)
theorem BIN_div (hb : b ≠ 0) (ha : Builtin.divisionGoesByPylong a b = false) (h : P (.int (a.fdiv b)) σ) : BIN prog w h₀ d σ .FloorDiv (.int a) (.int b) P := by
  intro A s Φ F E Q vs N R kk
  obtain ⟨u, v, rfl, r1, r2⟩ := R.two
  (first | obtain ⟨_, rfl⟩ := r1.inv_int | obtain rfl := r1.inv_ref | obtain rfl := r1.inv_none | obtain rfl := r1.inv_bool | cases r1); (first | obtain ⟨_, rfl⟩ := r2.inv_int | obtain rfl := r2.inv_ref | obtain rfl := r2.inv_none | obtain rfl := r2.inv_bool | cases r2)
  exact PyProof.Rows.floordiv_int hb (kk _ (.int _) _ Φ s.heap _ (.refl Φ) N.rel (.int _ _) h) (.inl ha)
theorem BIN_pow (h0 : 0 ≤ b) (h1 : b ≤ 1000000) (ha : a.natAbs < 2 ^ 64) (h : P (.int (a ^ b.toNat)) σ) : BIN prog w h₀ d σ .Pow (.int a) (.int b) P := by
  intro A s Φ F E Q vs N R kk
  obtain ⟨u, v, rfl, r1, r2⟩ := R.two
  (first | obtain ⟨_, rfl⟩ := r1.inv_int | obtain rfl := r1.inv_ref | obtain rfl := r1.inv_none | obtain rfl := r1.inv_bool | cases r1); (first | obtain ⟨_, rfl⟩ := r2.inv_int | obtain rfl := r2.inv_ref | obtain rfl := r2.inv_none | obtain rfl := r2.inv_bool | cases r2)
  exact PyProof.Rows.pow_int_small h0 h1 ha (kk _ (.int _) _ Φ s.heap _ (.refl Φ) N.rel (.int _ _) h)
theorem BIN_shl (h0 : 0 ≤ b) (h1 : b ≤ 1000000) (ha : a.natAbs < 2 ^ 64) (h : P (.int (a * 2 ^ b.toNat)) σ) : BIN prog w h₀ d σ .LShift (.int a) (.int b) P := by
  intro A s Φ F E Q vs N R kk
  obtain ⟨u, v, rfl, r1, r2⟩ := R.two
  (first | obtain ⟨_, rfl⟩ := r1.inv_int | obtain rfl := r1.inv_ref | obtain rfl := r1.inv_none | obtain rfl := r1.inv_bool | cases r1); (first | obtain ⟨_, rfl⟩ := r2.inv_int | obtain rfl := r2.inv_ref | obtain rfl := r2.inv_none | obtain rfl := r2.inv_bool | cases r2)
  exact PyProof.Rows.lshift_int_small h0 h1 ha (kk _ (.int _) _ Φ s.heap _ (.refl Φ) N.rel (.int _ _) h)
theorem BIN_shr (h0 : 0 ≤ b) (h : P (.int (a.fdiv (2 ^ b.toNat))) σ) : BIN prog w h₀ d σ .RShift (.int a) (.int b) P := by
  intro A s Φ F E Q vs N R kk
  obtain ⟨u, v, rfl, r1, r2⟩ := R.two
  (first | obtain ⟨_, rfl⟩ := r1.inv_int | obtain rfl := r1.inv_ref | obtain rfl := r1.inv_none | obtain rfl := r1.inv_bool | cases r1); (first | obtain ⟨_, rfl⟩ := r2.inv_int | obtain rfl := r2.inv_ref | obtain rfl := r2.inv_none | obtain rfl := r2.inv_bool | cases r2)
  exact PyProof.Rows.rshift_int h0 (kk _ (.int _) _ Φ s.heap _ (.refl Φ) N.rel (.int _ _) h)
theorem BIN_and255 (h : P (.int (a % 256)) σ) : BIN prog w h₀ d σ .BitAnd (.int a) (.int 255) P := by
  intro A s Φ F E Q vs N R kk
  obtain ⟨u, v, rfl, r1, r2⟩ := R.two
  (first | obtain ⟨_, rfl⟩ := r1.inv_int | obtain rfl := r1.inv_ref | obtain rfl := r1.inv_none | obtain rfl := r1.inv_bool | cases r1); (first | obtain ⟨_, rfl⟩ := r2.inv_int | obtain rfl := r2.inv_ref | obtain rfl := r2.inv_none | obtain rfl := r2.inv_bool | cases r2)
  refine PyProof.Rows.and_int (kk _ (.int (Builtin.bitAnd a 255)) _ Φ s.heap _ (.refl Φ) N.rel (.int _ _) ?_)
  rw [bitAnd_m8]; exact h
theorem UN_neg (h : P (.int (-a)) σ) : UN prog w h₀ d σ .USub (.int a) P := by
  intro A s Φ F E Q vs N R kk
  obtain ⟨u, rfl, r⟩ := R.one
  (first | obtain ⟨_, rfl⟩ := r.inv_int | obtain rfl := r.inv_ref | obtain rfl := r.inv_none | obtain rfl := r.inv_bool | cases r)
  exact PySem.P.neg_int (kk _ (.int _) _ Φ s.heap _ (.refl Φ) N.rel (.int _ _) h)
theorem TRU_int (h : PB (a != 0) σ) : TRU prog w h₀ d σ (.int a) PB := by
  intro A s Φ F E Q vs N R kk
  obtain ⟨u, rfl, r⟩ := R.one
  (first | obtain ⟨_, rfl⟩ := r.inv_int | obtain rfl := r.inv_ref | obtain rfl := r.inv_none | obtain rfl := r.inv_bool | cases r)
  exact PySem.P.truthy_int (kk _ _ _ Φ s.heap s.toks (.refl Φ) N.rel rfl h)
end
end Mine
open PySem PySem.W PySem.Calls PyProof.Rows
set_option Elab.async false
set_option maxRecDepth 100000
set_option linter.unusedVariables false
namespace Mine
/-- one resource replaced -/
inductive UpdR (r r' : Res) : List Res → List Res → Prop
  | head {τ : List Res} : UpdR r r' (r :: τ) (r' :: τ)
  | tail {x : Res} {τ τ' : List Res} : UpdR r r' τ τ' → UpdR r r' (x :: τ) (x :: τ')
theorem UpdR.perm {r r' : Res} {σ σ' : List Res} (u : UpdR r r' σ σ') : ∃ τ, σ.Perm (r :: τ) ∧ σ'.Perm (r' :: τ) := by
  induction u with
  | head => exact ⟨_, .refl _, .refl _⟩
  | tail _ ih => exact Exists.elim ih fun τ q => ⟨_, (q.1.cons _).trans (.swap _ _ _), (q.2.cons _).trans (.swap _ _ _)⟩
theorem UpdR.mem {r r' : Res} : ∀ {σ σ' : List Res}, UpdR r r' σ σ' → r ∈ σ
  | _, _, .head => .head _
  | _, _, .tail u => .tail _ u.mem
theorem Rel.upd {Φ : FMap} {σ σ' F : List Res} {h h' : Heap} {r r' : Res} (x : Rel Φ (σ ++ F) h) (U : UpdR r r' σ σ') (hs : ∀ b o, b ∉ r.addrs → h.get? b = some o → h'.get? b = some o) (e : r'.addrs = r.addrs)
    (l : ∀ a ∈ r.addrs, ∃ o, h'.get? a = some o) (hr' : r'.Holds Φ h') : Rel Φ (σ' ++ F) h' := by
  obtain ⟨τ, p, q⟩ := U.perm
  exact ((x.perm (p.append_right F)).change (r' := r') hs e l hr').perm (q.append_right F).symm
theorem seq_upd {h : Heap} {a : Addr} {vs ws : List Value} {n : Nat} {f : Array Value → Array Value} (ho : h.get? a = some (listO vs n)) (e : f vs.toArray = ws.toArray) : ∃ n', (h.update a (Obj.mapSeq f)).get? a = some (listO ws n') := by
  have h1 := Heap.get?_update_self (Obj.mapSeq f) ho rfl
  refine ⟨if (f vs.toArray).size == vs.toArray.size then n else n + 1, h1.trans (congrArg some ?_)⟩
  show Obj.mk (.type "list") none (.seq (f vs.toArray) (if (f vs.toArray).size == vs.toArray.size then n else n + 1)) #[] = _
  rw [e]
section
variable {prog : Program} {w : World} {h₀ : Heap} {d : Nat} {f : FrS} {σ σ' : List Res} {P : MV → List Res → Prop} {xs ys : List MV} {a : Addr} {m : MV} {u v : MV}
/-- a list changed in place -/
theorem Rel.upd_list {Φ : FMap} {F : List Res} {h : Heap} {vs ws : List Value} {n : Nat} {g : Array Value → Array Value} (x : Rel Φ (σ ++ F) h) (U : UpdR (.list a xs) (.list a ys) σ σ') (ho : h.get? a = some (listO vs n)) (e : g vs.toArray = ws.toArray)
    (hz : ws.length ≤ sizeLine) (rs : Reps Φ ys ws) : Rel Φ (σ' ++ F) (h.update a (Obj.mapSeq g)) := by
  obtain ⟨n', hn⟩ := seq_upd (f := g) ho e
  refine x.upd U (fun b o hb e => ?_) rfl (fun b hb => ?_) ⟨ws, n', hn, hz, rs⟩
  · exact (Heap.SameBut.update (a := a) (h := h) (f := Obj.mapSeq g)).extBut b o (fun q => hb (by subst q; exact .head _)) e
  · simp [Res.addrs] at hb; subst hb; exact ⟨_, hn⟩
theorem setItem_exact {A : Around} {E : Value → Shared → Prop} {s : Shared} {Q : Unit → Shared → Prop} {a : Addr} {ws : List Value} {n : Nat} {i : Int} {t : Tok} {z : Value} (ho : s.heap.get? a = some (listO ws n)) (h0 : 0 ≤ i) (hfit : i < 2 ^ 63) (hn : i < ws.length)
    (hQ : Q () { s with heap := s.heap.update a (Obj.mapSeq (·.setIfInBounds i.toNat z)) }) : wpAny (model prog w) A (setItem (.ref a) (.int i t) z) Q E s := by
  have hT : s.TypeIs (.ref a) "list" := ⟨_, ho, rfl⟩
  unfold setItem
  try with_reducible refine wpAny_holding ?_
  first | refine wpAny_bind (wpAny_pure ?_) | skip
  refine wpAny_bind (wpAny_sequenceKey hT (by decide) ?_)
  refine wpAny_bind (wpAny_callSpecial?_slot (name := Str.ofString "__setitem__") hT slot_list_setitem
    (wpAny_call_entry slot_list_setitem hT entry_list_setitem ?_ (args_list_setitem _ _ _)))
  show wpAny _ _ (Builtin.List.listSubscript? (.int i t) >>= _) _ _ s
  refine wpAny_bind (wpAny_listSubscript_int (fitsIndex_of h0 hfit) ?_)
  clear hfit
  obtain ⟨j, rfl⟩ := Int.eq_ofNat_of_zero_le h0
  have hj : j < ws.toArray.size := by rw [List.size_toArray]; lia
  have hx' : ws.toArray[j]? = some ws.toArray[j] := Array.getElem?_eq_getElem hj
  show wpAny _ _ ((seqItemAt a j >>= fun r => pure (r.map (j, ·))) >>= _) _ _ s
  refine wpAny_bind (wpAny_bind (wpAny_seqItemAt ho rfl (wpAny_pure ?_)))
  rw [hx']
  show wpAny _ _ (setSeqItemAt a j z >>= _) _ _ s
  refine wpAny_bind (wpAny_setSeqItemAt ho rfl ?_)
  first
    | exact wpAny_bind (wpAny_pure (wpAny_pure ⟨.none, rfl, wpAny_pure hQ⟩))
    | exact wpAny_pure ⟨.none, rfl, wpAny_pure hQ⟩
theorem HM_append (hm : .list a xs ∈ σ) : HasMeth prog w h₀ σ (.ref a) (Str.ofString "append") (.builtin "list.append") := by
  intro A s Φ F E Q v pl _ rel r q
  (first | obtain ⟨_, rfl⟩ := r.inv_int | obtain rfl := r.inv_ref | obtain rfl := r.inv_none | obtain rfl := r.inv_bool | cases r)
  obtain ⟨vs, n, ho, _, _⟩ := rel.res _ (List.mem_append_left _ hm)
  exact getMethod_list_append ho rfl rfl q
theorem CALL_append (U : UpdR (.list a xs) (.list a (xs ++ [m])) σ σ') (hz : xs.length < sizeLine) (h : P .none σ') : CALL prog w h₀ d σ (.ext (.builtin "list.append")) [.ref a, m] P := by
  intro A s Φ F E Q vs N R kk
  cases R with | cons r0 R => ?_
  cases R with | cons r1 R => ?_
  obtain ⟨x, rfl, rx⟩ := R.one
  cases r0.ext_inv
  (first | obtain ⟨_, rfl⟩ := r1.inv_int | obtain rfl := r1.inv_ref | obtain rfl := r1.inv_none | obtain rfl := r1.inv_bool | cases r1)
  obtain ⟨ws, n, ho, hw, rs⟩ := N.rel.res _ (List.mem_append_left _ U.mem)
  have hl := rs.length
  show wpAny _ A (call (.builtin "list.append") [.ref a, x]) Q E s
  refine wpAny_call_entry slot_list_append (T := "list") ⟨_, ho, rfl⟩ entry_list_append ?_ (args_list_append _ _)
  show wpAny _ _ (updateSeq a (·.push x) >>= fun _ => ret .none) _ _ s
  refine wpAny_bind ?_
  refine wpAny_updateSeq ho rfl (wpAny_pure ⟨.none, rfl, ?_⟩) (hz := by simpa using hw) (_hz' := by simp; lia)
  refine kk .none .none σ' Φ _ s.toks (.refl Φ) (N.rel.upd_list U (ws := ws ++ [x]) ho (by simp) (by simp; lia) (rs.snoc rx)) .none h
theorem SETI_list {i : Int} {Q' : List Res → Prop} (U : UpdR (.list a xs) (.list a (xs.set i.toNat m)) σ σ') (h0 : 0 ≤ i) (hx : i < xs.length) (h : Q' σ') : SETI prog w h₀ d σ (.ref a) (.int i) m Q' := by
  intro A s Φ F E Q vs N R kk
  obtain ⟨x, y, z, rfl, r1, r2, r3⟩ := R.three
  (first | obtain ⟨_, rfl⟩ := r1.inv_int | obtain rfl := r1.inv_ref | obtain rfl := r1.inv_none | obtain rfl := r1.inv_bool | cases r1); (first | obtain ⟨_, rfl⟩ := r2.inv_int | obtain rfl := r2.inv_ref | obtain rfl := r2.inv_none | obtain rfl := r2.inv_bool | cases r2)
  obtain ⟨ws, n, ho, hw, rs⟩ := N.rel.res _ (List.mem_append_left _ U.mem)
  have hl := rs.length
  have hw' := sizeLine63 hw
  refine setItem_exact (ws := ws) ho h0 (by lia) (by lia) ?_
  exact kk () () σ' Φ _ s.toks (.refl Φ) (N.rel.upd_list (g := (·.setIfInBounds i.toNat z)) U (ws := ws.set i.toNat z) ho (by simp) (by simp; lia) (rs.set _ r3)) trivial h
/-- a new list -/
theorem push_list {Φ Φ0 : FMap} {F : List Res} {h : Heap} {vs : List Value} (x : Rel Φ (σ ++ F) h) (hz : vs.length ≤ sizeLine) (rs : Reps Φ xs vs) :
    Rel Φ ((.list h.objs.size xs :: σ) ++ F) (h.push (listO vs 0)) := by
  have fr : h.get? h.objs.size = none := fresh_get (Nat.le_refl _)
  have g := Heap.get?_push_size h (o := listO vs 0) rfl
  refine x.push_res (r := .list h.objs.size xs) (fun _ _ e => Heap.get?_push_of_some _ e) (by simp [Res.addrs]) ?_ ?_ ⟨vs, 0, g, hz, rs⟩
  · intro a ha; simp [Res.addrs] at ha; subst ha; exact fr
  · intro a ha; simp [Res.addrs] at ha; subst ha; exact ⟨_, g⟩
theorem BIN_addl (hu : IsL σ u xs) (hv : IsL σ v ys) (hz : xs.length + ys.length ≤ sizeLine) (h : ∀ a, P (.ref a) (.list a (xs ++ ys) :: σ)) : BIN prog w h₀ d σ .Add u v P := by
  intro A s Φ F E Q vs N R kk
  obtain ⟨x, y, rfl, r1, r2⟩ := R.two
  obtain ⟨a, us, n, rfl, ho, hz1, rs1⟩ := hu.exact N.rel r1
  obtain ⟨b, ws, n2, rfl, ho2, hz2, rs2⟩ := hv.exact N.rel r2
  have l1 := rs1.length
  have l2 := rs2.length
  show wpAny _ A (binaryOp .Add (.ref a) (.ref b)) Q E s
  refine concat_meets ⟨_, ho, rfl⟩ ⟨_, ho2, rfl⟩ noFill_list_add seq_list_add PySem.F.slot_list_add PySem.F.entry_list_add (PySem.F.args_list_add_2 _ _) (PySem.AutoSeq1.list___add___list_list_0 a us.toArray n b ws.toArray n2 (by simp; lia)) ⟨ho, ho2, ?_⟩
  have e : us.toArray ++ ws.toArray = (us ++ ws).toArray := by simp
  rw [e]
  exact kk (.ref s.heap.objs.size) (.ref s.heap.objs.size) _ Φ _ s.toks (.refl Φ) (push_list (Φ0 := Φ) N.rel (by simp; lia) (rs1.append rs2)) (.ref _) (h _)
theorem seq_list_iadd : seqSlot? (.type "list") (dunderI "add") = pure (some (.builtin "list.__iadd__")) := PySem.seqSlot_of PySem.F.slot_list_iadd.lookup (by decide +kernel)
theorem INP_addl (U : UpdR (.list a xs) (.list a (xs ++ ys)) σ σ') (hv : IsL σ v ys) (hz : xs.length + ys.length ≤ sizeLine) (h : P (.ref a) σ') : INP prog w h₀ d σ .Add (.ref a) v P := by
  intro A s Φ F E Q vs N R kk
  obtain ⟨x, y, rfl, r1, r2⟩ := R.two
  (first | obtain ⟨_, rfl⟩ := r1.inv_int | obtain rfl := r1.inv_ref | obtain rfl := r1.inv_none | obtain rfl := r1.inv_bool | cases r1)
  obtain ⟨us, n, ho, hz1, rs1⟩ := N.rel.res _ (List.mem_append_left _ U.mem)
  obtain ⟨b, ws, n2, rfl, ho2, hz2, rs2⟩ := hv.exact N.rel r2
  have l1 := rs1.length
  have l2 := rs2.length
  show wpAny _ A (inplaceOp .Add (.ref a) (.ref b)) Q E s
  have ha : s.TypeIs (.ref a) "list" := ⟨_, ho, rfl⟩
  have hb : s.TypeIs (.ref b) "list" := ⟨_, ho2, rfl⟩
  unfold inplaceOp
  refine wpAny_holding ?_
  have hfi : fillsInplaceSlot (.type "list") "add" (Operator.Add == .Add) = pure false := by
    unfold fillsInplaceSlot
    show (typeLookup (.type "list") (dunderI "add") >>= fun fi => pure (fi.isSome && !isSeqSlot fi)) = pure false
    rw [PySem.F.slot_list_iadd.lookup]; rfl
  refine wpAny_bind (wpAny_typeOf ha (wpAny_bind (wpAny_of_eq hfi ?_)))
  show wpAny _ A (if false = true then _ else _) Q E s
  rw [if_neg Bool.false_ne_true]
  refine wpAny_bind (PyProof.Rows.binaryOp1_none (nm := "add") ha hb noFill_list_add ?_)
  refine wpAny_bind (wpAny_of_eq seq_list_iadd ?_)
  refine wpAny_bind (wpAny_rule ?_)
  have hnot : ¬(!us.toArray.isEmpty && Builtin.List.listTooLong (us.toArray.size + ws.toArray.size)) = true := by
    have : Builtin.List.listTooLong (us.toArray.size + ws.toArray.size) = false := by
      simp [Builtin.List.listTooLong]; lia
    rw [this]; simp
  refine call_meets PySem.F.slot_list_iadd ha PySem.F.entry_list_iadd (PySem.F.args_list_iadd_2 _ _) (PySem.AutoSeq1.list___iadd___list_list_0 a us.toArray n b ws.toArray n2 hnot (by simpa using hz1) (by simp; lia)) ⟨ho, ho2, ?_⟩
  exact kk (.ref a) (.ref a) σ' Φ _ s.toks (.refl Φ) (N.rel.upd_list (g := fun x => x ++ ws.toArray) U (ws := us ++ ws) ho (by simp) (by simp; lia) (rs1.append rs2)) (.ref _) h
theorem foldl_rep (x : Value) : ∀ (n : Nat) (acc : Array Value), List.foldl (fun x1 x2 => x1 ++ x2) acc (List.replicate n #[x]) = acc ++ (List.replicate n x).toArray
  | 0, acc => by simp
  | n + 1, acc => by rw [List.replicate_succ, List.foldl_cons, foldl_rep x n]; apply Array.toList_inj.mp; simp [List.replicate_succ]
/-- [x] * n -/
theorem BIN_mull {n : Int} (hu : IsL σ u [m]) (hz : n ≤ 16777216) (h : ∀ a, P (.ref a) (.list a (List.replicate n.toNat m) :: σ)) (hlo : -(2 ^ 63) ≤ n := by lia) : BIN prog w h₀ d σ .Mult u (.int n) P := by
  intro A s Φ F E Q vs N R kk
  obtain ⟨x, y, rfl, r1, r2⟩ := R.two
  (first | obtain ⟨_, rfl⟩ := r2.inv_int | obtain rfl := r2.inv_ref | obtain rfl := r2.inv_none | obtain rfl := r2.inv_bool | cases r2)
  obtain ⟨a, us, c, rfl, ho, hz1, rs1⟩ := hu.exact N.rel r1
  obtain ⟨v, rfl, rv⟩ := rs1.one
  have hz' : n.toNat ≤ sizeLine := by unfold sizeLine; lia
  show wpAny _ A (binaryOp .Mult (.ref a) (.int n _)) Q E s
  refine wpAny_binaryOp_repeat_ref (T := "list") (U := "int") (by decide) ⟨_, ho, rfl⟩ (fun s' => typeIs_int s' n _) noFill_list_mul PySem.F.fills_int_mul PySem.F.slot_int_rmul repeat_list PySem.F.slot_int_index.lookup
    (call_meets PySem.F.slot_int_rmul (typeIs_int s n _) PySem.F.entry_int_rmul (PySem.F.args_int_rmul_2 _ _) (int___rmul___int_list n _ a [v].toArray c)
      ⟨ho, rfl, ⟨_, ho, rfl⟩, call_meets PySem.F.slot_list_mul ⟨_, ho, rfl⟩ PySem.F.entry_list_mul (PySem.F.args_list_mul_2 _ _)
        (PySem.AutoListH.list___mul___list_int_3 a [v].toArray c n _ (by simp [Builtin.List.listFitsIndex]; lia) (by simp; lia) (by simp [Builtin.List.listTooLong]; lia))
        ⟨ho, ?_⟩⟩)
  have e : List.foldl (fun x1 x2 => x1 ++ x2) #[] (List.replicate (if ([v].toArray).isEmpty = true then 0 else n.toNat) [v].toArray) = (List.replicate n.toNat v).toArray := by
    show List.foldl (fun x1 x2 => x1 ++ x2) #[] (List.replicate n.toNat #[v]) = _
    rw [foldl_rep]; simp
  rw [e]
  exact kk (.ref s.heap.objs.size) (.ref s.heap.objs.size) _ Φ _ s.toks (.refl Φ) (push_list (Φ0 := Φ) N.rel (by simp; lia) (Reps.replicate rv _)) (.ref _) (h _)
theorem CALL_lenl (hu : IsL σ u xs) (h : P (.int xs.length) σ) : CALL prog w h₀ d σ (.ext (.builtin "len")) [u] P := by
  intro A s Φ F E Q vs N R kk
  obtain ⟨x, y, rfl, r1, r2⟩ := R.two
  cases r1.ext_inv
  obtain ⟨a, us, rfl, hl, hz1, rs1⟩ := hu.real N.rel r2
  have hz2 := sizeLine63 hz1
  refine call_len_list hl (by simpa using hz2) ?_
  have e : ((us.toArray.size : Nat) : Int) = (xs.length : Int) := by simp [rs1.length]
  rw [e]
  exact kk _ (.int _) σ Φ s.heap _ (.refl Φ) N.rel (.int _ _) h
theorem CALL_lent (h : P (.int xs.length) σ) : CALL prog w h₀ d σ (.ext (.builtin "len")) [.tup xs] P := by
  intro A s Φ F E Q vs N R kk
  obtain ⟨x, y, rfl, r1, r2⟩ := R.two
  cases r1.ext_inv
  obtain ⟨a, us, rfl, hl, hz1, rs1⟩ := r2.tup_inv N.rel.le
  have hz2 := sizeLine63 hz1
  refine PyProof.Rows.len_tuple hl (by simpa using hz2) ?_
  have e : ((us.toArray.size : Nat) : Int) = (xs.length : Int) := by simp [rs1.length]
  rw [e]
  exact kk _ (.int _) σ Φ s.heap _ (.refl Φ) N.rel (.int _ _) h
theorem CALL_lenb {b : Array UInt8} (h : P (.int b.size) σ) : CALL prog w h₀ d σ (.ext (.builtin "len")) [.bytes b] P := by
  intro A s Φ F E Q vs N R kk
  obtain ⟨x, y, rfl, r1, r2⟩ := R.two
  cases r1.ext_inv
  cases r2 with
  | bytes _ t hz => exact PySem.W.len_bytes (by unfold sizeLine at hz; lia) (kk _ (.int _) σ Φ s.heap _ (.refl Φ) N.rel (.int _ _) h)
theorem CALL_range {n : Int} (h : P (.rng n) σ) : CALL prog w h₀ d σ (.ext (.type "range")) [.int n] P := by
  intro A s Φ F E Q vs N R kk
  obtain ⟨x, y, rfl, r1, r2⟩ := R.two
  cases r1.ext_inv
  (first | obtain ⟨_, rfl⟩ := r2.inv_int | obtain rfl := r2.inv_ref | obtain rfl := r2.inv_none | obtain rfl := r2.inv_bool | cases r2)
  refine call_range_1 ?_
  have fr : s.heap.get? s.heap.objs.size = none := fresh_get (Nat.le_refl _)
  refine kk _ (.rng n) σ (ext1 Φ s.heap.objs.size _) _ _ (ext1_le (N.rel.fresh_none fr)) (N.rel.push_frozen (fun _ _ e => Heap.get?_push_of_some _ e) fr (Heap.get?_push_size _ rfl)) (.rng (ext1_self ..)) h
theorem CALL_tuple (hu : IsL σ u xs) (h : P (.tup xs) σ) : CALL prog w h₀ d σ (.ext (.type "tuple")) [u] P := by
  intro A s Φ F E Q vs N R kk
  obtain ⟨x, y, rfl, r1, r2⟩ := R.two
  cases r1.ext_inv
  obtain ⟨a, us, rfl, hl, hz1, rs1⟩ := hu.real N.rel r2
  refine call_tuple_list hl (fun h' hk => ?_) (by simpa using hz1)
  have rel' := N.rel.kept hk
  have fr : h'.get? h'.objs.size = none := fresh_get (Nat.le_refl _)
  have le := ext1_le (o := { cls := .type "tuple", data := .seq us.toArray }) (rel'.fresh_none fr)
  refine kk _ (.tup xs) σ (ext1 Φ h'.objs.size _) _ s.toks le (rel'.push_frozen (fun _ _ e => Heap.get?_push_of_some _ e) fr (Heap.get?_push_size _ rfl)) (.tup (ext1_self ..) rfl rfl hz1 (rs1.mono le)) h
end
end Mine
open PySem PySem.W PySem.Calls PyProof.Rows
set_option Elab.async false
set_option maxRecDepth 100000
set_option linter.unusedVariables false
namespace Mine
theorem Rel.but {Φ : FMap} {σ : List Res} {h h' : Heap} {I : Addr} {o : Obj} (x : Rel Φ (.raw I o :: σ) h) (hs : ∀ b o, b ≠ I → h.get? b = some o → h'.get? b = some o) : Rel Φ σ h' := by
  have nd := x.nd; rw [foot_cons] at nd
  have dj : I ∉ foot σ := fun hm => (List.nodup_cons.mp nd).1 hm
  have y := x.drop
  have hl : ∀ a o, Φ a = some o → h'.get? a = some o := fun a o e => hs a o (fun q => by
    have := x.off I (by rw [foot_cons]; exact .head _)
    rw [q, this] at e; cases e) (y.le a o e)
  have hk : ∀ a ∈ foot σ, ∀ o, h.get? a = some o → h'.get? a = some o := fun a ha o e => hs a o (fun q => dj (q ▸ ha)) e
  exact ⟨hl, y.nd, y.off, fun a ha => let ⟨o, e⟩ := y.live a ha; ⟨o, hk a ha o e⟩, fun r hr => (y.res r hr).frame (fun a ha o e => hk a (List.mem_flatMap.mpr ⟨r, hr, ha⟩) o e) hl⟩
theorem Rel.raw_upd {Φ : FMap} {σ : List Res} {h h' : Heap} {I : Addr} {o o' : Obj} (x : Rel Φ (.raw I o :: σ) h) (hs : ∀ b o, b ≠ I → h.get? b = some o → h'.get? b = some o) (e : h'.get? I = some o') : Rel Φ (.raw I o' :: σ) h' :=
  Rel.change (r := .raw I o) (r' := .raw I o') x (fun b o hb e => hs b o (fun q => hb (by subst q; exact .head _)) e) rfl (fun a ha => by simp [Res.addrs] at ha; subst ha; exact ⟨_, e⟩) e
theorem permM {r x : Res} {τ G : List Res} : ((r :: τ) ++ x :: G).Perm (x :: ((r :: τ) ++ G)) := List.perm_middle
theorem keep_fp {Φ Φ1 Φ2 : FMap} {I : Addr} {o1 : Obj} {fp : List Addr} {G σ1 σ2 : List Res} {f1 f2 : Res} {h1 h2 : Heap} (hfp : ∀ b ∈ fp, b = I ∨ (∃ o, Φ b = some o) ∨ ∃ o, Res.raw b o ∈ G) (l1 : FLe Φ Φ1) (l2 : FLe Φ1 Φ2)
    (r1 : Rel Φ1 ((f1 :: σ1) ++ .raw I o1 :: G) h1) (r2 : Rel Φ2 ((f2 :: σ2) ++ .raw I o1 :: G) h2) : ∀ b ∈ fp, ∀ o, h1.get? b = some o → h2.get? b = some o := by
  intro b hb ob eb
  have raw : ∀ {b : Addr} {o' ob : Obj}, Res.raw b o' ∈ Res.raw I o1 :: G → h1.get? b = some ob → h2.get? b = some ob := fun {b o' ob} hm e => by
    have e1 : h1.get? b = some o' := r1.res _ (List.mem_append_right _ hm)
    have e2 : h2.get? b = some o' := r2.res _ (List.mem_append_right _ hm)
    rw [e] at e1; cases e1; exact e2
  rcases hfp b hb with rfl | ⟨o', e'⟩ | ⟨o', hm⟩
  · exact raw (.head _) eb
  · have e1 := r1.le _ _ (l1 _ _ e')
    rw [eb] at e1; cases e1
    exact r2.le _ _ (l2 _ _ (l1 _ _ e'))
  · exact raw (.tail _ hm) eb
section
variable {prog : Program} {w : World} {h₀ : Heap} {d : Nat} {env : Env} {γ : List (Str × MV)} {ρ ρ' : Loc} {σ : List Res} {P : FL → Loc → List Res → Prop} {pos npos : Pos}
/-- what a turn of a loop's body may end with -/
def LP (P : FL → Loc → List Res → Prop) (I : Loc → List Res → Prop) : FL → Loc → List Res → Prop
  | .next, ρ, σ => I ρ σ
  | .cont, ρ, σ => I ρ σ
  | .brk, ρ, σ => P .next ρ σ
  | .ret v, ρ, σ => P (.ret v) ρ σ
theorem for_core {A : Around} {s : Shared} {Φ : FMap} {G : List Res} {R : Result → Shared → Prop} {I : Addr} {o : Obj} {fp : List Addr} {Pv : Nat → Value → Prop} {St : Nat → Heap → Prop} {xs : List MV} {target : Expr} {body : List Stmt}
    (N : Now h₀ d A Φ ((fr1 env γ ρ :: σ) ++ .raw I o :: G) s.heap) (W : Walks prog w A I fp [I] xs.length Pv St) (hP : ∀ i v, Pv i v → ∃ m, xs[i]? = some m ∧ Rep Φ m v)
    (hfp : ∀ b ∈ fp, b = I ∨ (∃ o, Φ b = some o) ∨ ∃ o, Res.raw b o ∈ G) (hlive : ∀ i h, St i h → ∃ o, h.get? I = some o) (st0 : St 0 s.heap)
    (Inv : Nat → Loc → List Res → Prop) (i0 : Inv 0 ρ σ)
    (step : ∀ i m ρ σ, xs[i]? = some m → Inv i ρ σ → AS prog w h₀ d env γ ρ σ target m (fun ρ1 σ1 => XV prog w h₀ d env γ ρ1 σ1 body (LP P (Inv (i + 1)))))
    (fin : ∀ ρ σ, Inv xs.length ρ σ → P .next ρ σ)
    (done : ∀ fl f ρ' σ' Φ' h' tk, FLe Φ Φ' → Rel Φ' ((fr1 env γ ρ' :: σ') ++ G) h' → RepF Φ' fl f → P fl ρ' σ' → R (.ok f) { s with heap := h', toks := tk })
    (ht : ∀ it v, letOwnedTupleGo target it v = pure () := by intro _ _; rfl) : codeAny (model prog w) A (.forLoop target (.ref I) body [] env) R s := by
  refine codeAny_forLoop (fun k s' => ∃ h' tk i ρ' σ' Φ' o', s' = { s with heap := h', toks := tk } ∧ FLe Φ Φ' ∧ Rel Φ' ((fr1 env γ ρ' :: σ') ++ .raw I o' :: G) h' ∧ St i h' ∧ Inv i ρ' σ' ∧ i ≤ xs.length ∧ k = xs.length + 1 - i) ?_ (xs.length + 1)
    ⟨s.heap, s.toks, 0, ρ, σ, Φ, o, rfl, .refl Φ, N.rel, st0, i0, Nat.zero_le _, rfl⟩ (ht _)
  rintro k s' ⟨h1, tk1, i, ρ1, σ1, Φ1, o1, rfl, le1, rel1, st1, inv1, hi, rfl⟩
  by_cases hlt : i < xs.length
  · refine W.item i _ _ _ hlt st1 fun v h2 tk2 hv st2 k2 => ?_
    obtain ⟨m, hm, rm⟩ := hP i v hv
    obtain ⟨o2, ho2⟩ := hlive _ _ st2
    have rel2 : Rel Φ1 ((fr1 env γ ρ1 :: σ1) ++ .raw I o2 :: G) h2 := ((rel1.perm permM).raw_upd (fun b o hb e => k2 b o (by simpa using hb) e) ho2).perm permM.symm
    refine step i m ρ1 σ1 hm inv1 A { s with heap := h2, toks := tk2 } Φ1 (.raw I o2 :: G) _ _ [v] ⟨N.room, fun a o e => le1 a o (N.base a o e), rel2⟩ (.cons (rm.mono le1) .nil) ?_
    rintro _ _ σ3 Φ3 h3 tk3 le3 rel3 _ ⟨ρ3, τ3, rfl, hx⟩
    have st3 := W.frame _ _ _ st2 (keep_fp hfp le1 le3 rel2 rel3)
    refine hx A { s with heap := h3, toks := tk3 } Φ3 (.raw I o2 :: G) _ _ [] ⟨N.room, fun a o e => le3 a o (le1 a o (N.base a o e)), rel3⟩ .nil ?_
    rintro fl f σ4 Φ4 h4 tk4 le4 rel4 rep4 ⟨ρ4, τ4, rfl, hp⟩
    have st4 := W.frame _ _ _ st3 (keep_fp hfp (le1.trans le3) le4 rel3 rel4)
    have le5 := le1.trans (le3.trans le4)
    have drop4 : Rel Φ4 ((fr1 env γ ρ4 :: τ4) ++ G) h4 := (rel4.perm permM).drop
    cases rep4 with
    | next => exact ⟨xs.length - i, by lia, h4, tk4, i + 1, ρ4, τ4, Φ4, o2, rfl, le5, rel4, st4, hp, by lia, by lia⟩
    | cont => exact ⟨xs.length - i, by lia, h4, tk4, i + 1, ρ4, τ4, Φ4, o2, rfl, le5, rel4, st4, hp, by lia, by lia⟩
    | brk => exact done .next .next ρ4 τ4 Φ4 h4 tk4 le5 drop4 .next hp
    | ret r => exact done _ _ ρ4 τ4 Φ4 h4 tk4 le5 drop4 (.ret r) hp
  · obtain rfl : i = xs.length := by lia
    refine W.done _ _ _ st1 fun h2 tk2 k2 => ?_
    refine wpAny_execs_nil (done .next .next ρ1 σ1 Φ1 h2 tk2 le1 ?_ .next (fin _ _ inv1))
    exact (rel1.perm permM).but fun b o hb e => k2 b o (by simpa using hb) e
/-- what a frozen value is walked over as -/
inductive Itr : MV → List MV → Prop
  | list (xs : List MV) : Itr (.list xs) xs
  | tup (xs : List MV) : Itr (.tup xs) xs
  | rng (n : Int) : 0 ≤ n → n < 2 ^ 62 → Itr (.rng n) ((List.range n.toNat).map fun i : Nat => .int i)
theorem raw_new {Φ : FMap} {τ G : List Res} {f : Res} {h : Heap} {o : Obj} (hf : o.isFreed = false) (x : Rel Φ ((f :: τ) ++ G) h) : Rel Φ ((f :: τ) ++ .raw h.objs.size o :: G) (h.push o) := by
  have fr : h.get? h.objs.size = none := fresh_get (Nat.le_refl _)
  have g := Heap.get?_push_size h (o := o) hf
  refine (x.push_res (r := .raw h.objs.size o) (fun _ _ e => Heap.get?_push_of_some _ e) (by simp [Res.addrs]) ?_ ?_ g).perm permM.symm
  · intro a ha; simp [Res.addrs] at ha; subst ha; exact fr
  · intro a ha; simp [Res.addrs] at ha; subst ha; exact ⟨_, g⟩
/-- the walk over a frozen value starts -/
theorem itr_start {A : Around} {s : Shared} {Φ : FMap} {G τ : List Res} {f : Res} {E : Value → Shared → Prop} {Q : Value → Shared → Prop} {v : MV} {xs : List MV} {u : Value} (It : Itr v xs) (hh : A.handled = none) (rel : Rel Φ ((f :: τ) ++ G) s.heap) (r : Rep Φ v u)
    (k : ∀ I o fp Pv St h' tk, Rel Φ ((f :: τ) ++ .raw I o :: G) h' → Walks prog w A I fp [I] xs.length Pv St → (∀ i v, Pv i v → ∃ m, xs[i]? = some m ∧ Rep Φ m v) → (∀ b ∈ fp, b = I ∨ (∃ o, Φ b = some o) ∨ ∃ o, Res.raw b o ∈ G) →
      (∀ i h, St i h → ∃ o, h.get? I = some o) → St 0 h' → Q (.ref I) { s with heap := h', toks := tk }) : wpAny (model prog w) A (pyIter u) Q E s := by
  cases It with
  | list =>
    cases r with
    | list ho hc hd hz rs => ?_
    rename_i vs a o n
    have hl : s.heap.IsList a vs.toArray := ⟨o, rel.le _ _ ho, by rw [hc], n, hd⟩
    refine wpAny_pyIter_list hl ?_
    have hne : a ≠ s.heap.objs.size := Nat.ne_of_lt (Heap.lt_size (rel.le _ _ ho))
    have W := Walks.list (prog := prog) (w := w) (A := A) hh s.heap.objs.size a hne vs.toArray
    rw [show vs.toArray.size = xs.length from List.size_toArray.trans rs.length] at W
    refine k s.heap.objs.size _ _ _ _ _ s.toks (raw_new rfl rel) W ?_ ?_ ?_ ?_
    · intro i v hv
      have hv' : vs[i]? = some v := by simpa using hv
      have hlt : i < xs.length := by rw [← rs.length]; exact (List.getElem?_eq_some_iff.mp hv').1
      obtain ⟨m, hm⟩ : ∃ m, xs[i]? = some m := ⟨_, List.getElem?_eq_getElem hlt⟩
      obtain ⟨y, hy, ry⟩ := rs.get hm
      rw [hv'] at hy; cases hy
      exact ⟨m, hm, ry⟩
    · intro b hb
      simp at hb
      rcases hb with rfl | rfl
      · exact .inl rfl
      · exact .inr (.inl ⟨_, ho⟩)
    · rintro i h ⟨⟨o, ho, _⟩, _⟩; exact ⟨o, ho⟩
    · exact ⟨⟨_, Heap.get?_push_size _ rfl, rfl, rfl⟩, hl.push _⟩
  | tup =>
    cases r with
    | tup ho hc hd hz rs => ?_
    rename_i vs a o n
    have hl : s.heap.IsTuple a vs.toArray := ⟨o, rel.le _ _ ho, by rw [hc], n, hd⟩
    refine wpAny_pyIter_tuple hl ?_
    have hne : a ≠ s.heap.objs.size := Nat.ne_of_lt (Heap.lt_size (rel.le _ _ ho))
    have W := Walks.tuple (prog := prog) (w := w) (A := A) hh s.heap.objs.size a hne vs.toArray
    rw [show vs.toArray.size = xs.length from List.size_toArray.trans rs.length] at W
    refine k s.heap.objs.size _ _ _ _ _ s.toks (raw_new rfl rel) W ?_ ?_ ?_ ?_
    · intro i v hv
      have hv' : vs[i]? = some v := by simpa using hv
      have hlt : i < xs.length := by rw [← rs.length]; exact (List.getElem?_eq_some_iff.mp hv').1
      obtain ⟨m, hm⟩ : ∃ m, xs[i]? = some m := ⟨_, List.getElem?_eq_getElem hlt⟩
      obtain ⟨y, hy, ry⟩ := rs.get hm
      rw [hv'] at hy; cases hy
      exact ⟨m, hm, ry⟩
    · intro b hb
      simp at hb
      rcases hb with rfl | rfl
      · exact .inl rfl
      · exact .inr (.inl ⟨_, ho⟩)
    · rintro i h ⟨⟨o, ho, _⟩, _⟩; exact ⟨o, ho⟩
    · exact ⟨⟨_, Heap.get?_push_size _ rfl, rfl, rfl⟩, hl.push _⟩
  | rng n h0 h1 =>
    cases r with
    | rng ho => ?_
    rename_i a t u v
    have hr : IsRange s.heap a 0 n 1 t u v := rel.le _ _ ho
    have hsz : Builtin.Range.rangeSize 0 n 1 = n := by
      unfold Builtin.Range.rangeSize
      rw [if_pos (by decide), Int.ediv_one]
      split <;> lia
    refine wpAny_pyIter_range hr ?_ ?_
    · unfold Builtin.Range.small
      rw [hsz]
      have f : ∀ x : Int, -(2 ^ 62) ≤ x → x ≤ 2 ^ 62 → Builtin.Range.rangeFitsLong x = true := fun x h1 h2 => by
        unfold Builtin.Range.rangeFitsLong; simp; lia
      rw [f 0 (by lia) (by lia), f n (by lia) (by lia), f 1 (by lia) (by lia), if_pos (by decide), f (n + (1 - 1)) (by lia) (by lia)]
      simp
    have W := Walks.range (prog := prog) (w := w) (A := A) hh s.heap.objs.size 0 1 n.toNat
    have hlen : ((List.range n.toNat).map fun i : Nat => MV.int i).length = n.toNat := by simp
    rw [← hlen] at W
    have W2 : Walks prog w A s.heap.objs.size [s.heap.objs.size] [s.heap.objs.size] ((List.range n.toNat).map fun i : Nat => MV.int i).length (fun i v => ∃ t, i < n.toNat ∧ v = .int (0 + i * 1) t) (fun i h => IsRangeIter h s.heap.objs.size (0 + (i : Nat) * 1) ((((List.range n.toNat).map fun i : Nat => MV.int i).length : Int) - (i : Nat)) 1) :=
      ⟨W.sub, W.frame, fun i s' Q E hi st hQ => W.item i s' Q E hi st fun v h' tk ⟨t, hv⟩ => hQ v h' tk ⟨t, by rw [← hlen]; exact hi, hv⟩, W.done, W.self⟩
    refine k s.heap.objs.size _ _ _ _ _ s.toks (raw_new rfl rel) W2 ?_ ?_ ?_ ?_
    · rintro i v ⟨t, hlt, rfl⟩
      refine ⟨.int i, ?_, ?_⟩
      · simp [hlt]
      · rw [show (0 : Int) + (i : Int) * 1 = (i : Int) by lia]; exact .int _ _
    · intro b hb
      simp at hb
      exact .inl hb
    · rintro i h hst; exact ⟨_, hst⟩
    · show IsRangeIter _ _ _ _ _
      unfold IsRangeIter
      rw [Heap.get?_push_size _ rfl, hsz, hlen]
      simp [rawInt]
      lia
end
end Mine
open PySem PySem.W PySem.Calls PyProof.Rows
set_option Elab.async false
set_option maxRecDepth 100000
set_option linter.unusedVariables false
namespace Mine
section
variable {prog : Program} {w : World} {h₀ : Heap} {d : Nat} {env : Env} {γ : List (Str × MV)} {ρ ρ' : Loc} {σ : List Res} {P : FL → Loc → List Res → Prop} {pos npos : Pos}
theorem X1_for {target iter : Expr} {body : List Stmt} {xs : List MV} (Inv : Nat → Loc → List Res → Prop)
    (h : EV prog w h₀ d (fs env γ ρ) σ iter (fun v σ1 => Itr v xs ∧ Inv 0 ρ σ1))
    (step : ∀ i m ρ σ, xs[i]? = some m → Inv i ρ σ → AS prog w h₀ d env γ ρ σ target m (fun ρ1 σ1 => XV prog w h₀ d env γ ρ1 σ1 body (LP P (Inv (i + 1)))))
    (fin : ∀ ρ σ, Inv xs.length ρ σ → P .next ρ σ)
    (hs : ∀ x, foldedSetIterable iter env x = pure x := by intro _; rfl) (ht : ∀ it v, letOwnedTupleGo target it v = pure () := by intro _ _; rfl) : X1 prog w h₀ d env γ ρ σ (.For target iter body [] pos) P := by
  intro A s Φ F E Q vs N R kk
  refine wpAny_For (h A s Φ F E _ [] N .nil ?_) hs
  rintro u v σ1 Φ1 h1 tk1 le1 rel1 rep1 ⟨τ, rfl, It, inv⟩
  refine itr_start It N.room.hh rel1 rep1 ?_
  intro I o fp Pv St h2 tk2 rel2 W hP hfp hlive st0
  refine for_core (Φ := Φ1) (P := P) ⟨N.room, fun a o e => le1 a o (N.base a o e), rel2⟩ W hP hfp hlive st0 Inv inv step fin ?_ ht
  intro fl f ρ' σ' Φ' h' tk le rel rep hp
  exact kk _ fl _ Φ' h' tk (le1.trans le) rel rep ⟨ρ', σ', rfl, hp⟩
theorem rel_unraw {Φ : FMap} {τ G : List Res} {f r : Res} {h : Heap} {a : Addr} {o : Obj} (e : r.addrs = [a]) (x : Rel Φ ((f :: r :: τ) ++ G) h) (ho : h.get? a = some o) : Rel Φ ((f :: τ) ++ .raw a o :: G) h := by
  have p : ((f :: r :: τ) ++ G).Perm (r :: (f :: τ) ++ G) := List.Perm.swap _ _ _
  have y : Rel Φ (.raw a o :: ((f :: τ) ++ G)) h := Rel.change (r := r) (r' := .raw a o) (x.perm p) (fun b o _ q => q) (by rw [e]; rfl) (fun b hb => by rw [e] at hb; simp at hb; subst hb; exact ⟨o, ho⟩) ho
  exact y.perm permM.symm
/-- a loop over a list of the resources that the body leaves alone -/
theorem X1_for_mut {target iter : Expr} {body : List Stmt} {xs : List MV} {a : Addr} (Inv : Nat → Loc → List Res → Prop)
    (h : EV prog w h₀ d (fs env γ ρ) σ iter (fun v σ1 => v = .ref a ∧ ∃ τ, σ1 = .list a xs :: τ ∧ Inv 0 ρ τ))
    (step : ∀ i m ρ σ, xs[i]? = some m → Inv i ρ σ → AS prog w h₀ d env γ ρ σ target m (fun ρ1 σ1 => XV prog w h₀ d env γ ρ1 σ1 body (LP (fun fl ρ τ => P fl ρ (.list a xs :: τ)) (Inv (i + 1)))))
    (fin : ∀ ρ σ, Inv xs.length ρ σ → P .next ρ (.list a xs :: σ))
    (hs : ∀ x, foldedSetIterable iter env x = pure x := by intro _; rfl) (ht : ∀ it v, letOwnedTupleGo target it v = pure () := by intro _ _; rfl) : X1 prog w h₀ d env γ ρ σ (.For target iter body [] pos) P := by
  intro A s Φ F E Q vs N R kk
  refine wpAny_For (h A s Φ F E _ [] N .nil ?_) hs
  rintro u v σ1 Φ1 h1 tk1 le1 rel1 rep1 ⟨τ, rfl, rfl, τ2, rfl, inv⟩
  (first | obtain ⟨_, rfl⟩ := rep1.inv_int | obtain rfl := rep1.inv_ref | obtain rfl := rep1.inv_none | obtain rfl := rep1.inv_bool | cases rep1)
  obtain ⟨ws, n, ho, hz, rs⟩ := rel1.res (.list a xs) (by simp)
  have hl : h1.IsList a ws.toArray := ⟨_, ho, rfl, n, rfl⟩
  refine wpAny_pyIter_list (s := { s with heap := h1, toks := tk1 }) hl ?_
  have hne : a ≠ h1.objs.size := Nat.ne_of_lt (Heap.lt_size ho)
  have W := Walks.list (prog := prog) (w := w) (A := A) N.room.hh h1.objs.size a hne ws.toArray
  rw [show ws.toArray.size = xs.length from List.size_toArray.trans rs.length] at W
  have rel2 := rel_unraw (r := .list a xs) rfl rel1 ho
  have rel3 := raw_new (o := { cls := .type "list_iterator", data := .fields #[.ref a, .int 0 0] }) rfl rel2
  refine for_core (Φ := Φ1) (G := .raw a (listO ws n) :: F) (P := fun fl ρ τ => P fl ρ (.list a xs :: τ)) ⟨N.room, fun a o e => le1 a o (N.base a o e), rel3⟩ W ?_ ?_ ?_ ?_ Inv inv step fin ?_ ht
  · intro i v hv
    have hv' : ws[i]? = some v := by simpa using hv
    have hlt : i < xs.length := by rw [← rs.length]; exact (List.getElem?_eq_some_iff.mp hv').1
    obtain ⟨m, hm⟩ : ∃ m, xs[i]? = some m := ⟨_, List.getElem?_eq_getElem hlt⟩
    obtain ⟨y, hy, ry⟩ := rs.get hm
    rw [hv'] at hy; cases hy
    exact ⟨m, hm, ry⟩
  · intro b hb
    simp at hb
    rcases hb with rfl | rfl
    · exact .inl rfl
    · exact .inr (.inr ⟨_, .head _⟩)
  · rintro i h ⟨⟨o, ho, _⟩, _⟩; exact ⟨o, ho⟩
  · exact ⟨⟨_, Heap.get?_push_size _ rfl, rfl, rfl⟩, hl.push _⟩
  intro fl f ρ' σ' Φ' h' tk le rel rep hp
  have rel4 : Rel Φ' (.raw a (listO ws n) :: ((fr1 env γ ρ' :: σ') ++ F)) h' := rel.perm permM
  have ha : h'.get? a = some (listO ws n) := rel4.head
  have rel5 : Rel Φ' (.list a xs :: ((fr1 env γ ρ' :: σ') ++ F)) h' := Rel.change (r := .raw a (listO ws n)) (r' := .list a xs) rel4 (fun b o _ q => q) rfl (fun b hb => by simp [Res.addrs] at hb; subst hb; exact ⟨_, ha⟩) ⟨ws, n, ha, hz, rs.mono (fun b o e => le b o e)⟩
  exact kk _ fl _ Φ' h' tk (le1.trans le) (rel5.perm (List.Perm.swap _ _ _)) rep ⟨ρ', _, rfl, hp⟩
/-- what a turn of a while may end with -/
def LPw (P : FL → Loc → List Res → Prop) (I : Nat → Loc → List Res → Prop) (n : Nat) : FL → Loc → List Res → Prop
  | .next, ρ, σ => ∃ m, m < n ∧ I m ρ σ
  | .cont, ρ, σ => ∃ m, m < n ∧ I m ρ σ
  | .brk, ρ, σ => P .next ρ σ
  | .ret v, ρ, σ => P (.ret v) ρ σ
theorem X1_while {test : Expr} {body : List Stmt} (I : Nat → Loc → List Res → Prop) (n : Nat) (i0 : I n ρ σ)
    (turn : ∀ n ρ σ, I n ρ σ → TE prog w h₀ d (fs env γ ρ) σ test (fun b σ1 => (b = true → XV prog w h₀ d env γ ρ σ1 body (LPw P I n)) ∧ (b = false → P .next ρ σ1))) : X1 prog w h₀ d env γ ρ σ (.While test body [] pos) P := by
  intro A s Φ F E Q vs N R kk
  refine wpAny_While (codeAny_whileLoop (fun k s' => ∃ h' tk ρ' σ' Φ', s' = { s with heap := h', toks := tk } ∧ FLe Φ Φ' ∧ Rel Φ' ((fr1 env γ ρ' :: σ') ++ F) h' ∧ I k ρ' σ') ?_ n ⟨s.heap, s.toks, ρ, σ, Φ, rfl, .refl Φ, N.rel, i0⟩)
  rintro k s' ⟨h1, tk1, ρ1, σ1, Φ1, rfl, le1, rel1, inv1⟩
  refine turn k ρ1 σ1 inv1 A { s with heap := h1, toks := tk1 } Φ1 F _ _ [] (N.next le1 rel1) .nil ?_
  rintro b bb σ2 Φ2 h2 tk2 le2 rel2 rfl ⟨τ2, rfl, hp⟩
  cases b with
  | true =>
    rw [if_pos rfl]
    refine hp.1 rfl A { s with heap := h2, toks := tk2 } Φ2 F _ _ [] (N.next (le1.trans le2) rel2) .nil ?_
    rintro f fl σ4 Φ4 h4 tk4 le4 rel4 rep4 ⟨ρ4, τ4, rfl, hp⟩
    have le5 := le1.trans (le2.trans le4)
    cases rep4 with
    | next => obtain ⟨m, hm, hi⟩ := hp; exact ⟨m, hm, h4, tk4, ρ4, τ4, Φ4, rfl, le5, rel4, hi⟩
    | cont => obtain ⟨m, hm, hi⟩ := hp; exact ⟨m, hm, h4, tk4, ρ4, τ4, Φ4, rfl, le5, rel4, hi⟩
    | brk => exact kk .next .next _ Φ4 h4 tk4 le5 rel4 .next ⟨ρ4, τ4, rfl, hp⟩
    | ret r => exact kk _ _ _ Φ4 h4 tk4 le5 rel4 (.ret r) ⟨ρ4, τ4, rfl, hp⟩
  | false =>
    rw [if_neg (by decide)]
    exact wpAny_execs_nil (kk .next .next _ Φ2 h2 tk2 (le1.trans le2) rel2 .next ⟨ρ1, τ2, rfl, hp.2 rfl⟩)
end
end Mine
open PySem PySem.W PySem.Calls PyProof.Rows
set_option Elab.async false
set_option maxRecDepth 100000
set_option linter.unusedVariables false
namespace Mine
/-- resources cut anew -/
theorem Rel.repl {Φ : FMap} {rs rs' σ : List Res} {h : Heap} (x : Rel Φ (rs ++ σ) h) (p : (foot rs').Perm (foot rs)) (k : ∀ r ∈ rs', r.Holds Φ h) : Rel Φ (rs' ++ σ) h := by
  have q : (foot (rs' ++ σ)).Perm (foot (rs ++ σ)) := by rw [foot_append, foot_append]; exact p.append_right _
  refine ⟨x.le, q.nodup_iff.mpr x.nd, fun a ha => x.off a (q.mem_iff.mp ha), fun a ha => x.live a (q.mem_iff.mp ha), fun r hr => ?_⟩
  rcases List.mem_append.mp hr with hr | hr
  · exact k r hr
  · exact x.res r (List.mem_append_right _ hr)
/-- a store into a plain local of any frame -/
theorem store_local {A : Around} {s : Shared} {Φ : FMap} {F : List Res} {E : Value → Shared → Prop} {Q : Unit → Shared → Prop} {f : FrS} {ρ' : Loc} {x : Str} {v : MV} {u : Value} (M : Model) (rel : Rel Φ (.fr f :: F) s.heap) (r : Rep Φ v u) (U : UpdL x v f.ρ ρ')
    (hl : f.env.kindOf x = some .local) (kk : ∀ h' tk, Rel Φ (.fr { f with ρ := ρ' } :: F) h' → Q () { s with heap := h', toks := tk }) : wpAny M A (storeName f.env x u) Q E s := by
  have O : FrOk Φ f s.heap := rel.head
  obtain ⟨m, hn, hs⟩ := O.ns
  have hp : (f.env.scope.kind == .class || (f.env.scope.kind == .module && f.env.locals != f.env.globals)) = false := by
    rw [O.kind]; rfl
  have nd := rel.nd
  rw [foot_cons] at nd
  have nd1 := (List.nodup_append.mp nd).1
  have hLn : f.env.locals ∉ f.own ++ f.keep.map (·.1) := (List.nodup_cons.mp nd1).1
  refine wpAny_storeName_local hl hn (fun h' hn' hsb => kk h' _ ?_) hp
  refine Rel.change (r := .fr f) (r' := .fr { f with ρ := ρ' }) rel (fun b o hb e => hsb.extBut b o (fun q => hb (by subst q; exact .head _)) e) rfl (fun a ha => ?_) ?_
  · by_cases q : a = f.env.locals
    · subst q; obtain ⟨o, _, _, ho, _⟩ := hn'; exact ⟨o, ho⟩
    · obtain ⟨o, ho⟩ := rel.live a (by rw [foot_cons]; exact List.mem_append_left _ ha); exact ⟨o, hsb.extBut a o q ho⟩
  · have hLoff : Φ f.env.locals = none := rel.off f.env.locals (by rw [foot_cons]; exact List.mem_append_left _ (.head _))
    refine ⟨O.kind, O.glob, O.bi, O.glo, U.dbg O.dbg, by have := O.keys; dsimp only at this ⊢; rw [U.keys]; exact this, O.cap, fun p hp => hsb.extBut _ _ (fun q => hLn (List.mem_append_right _ (List.mem_map.mpr ⟨p, hp, q⟩))) (O.kept p hp), _, hn', fun p hp' => ?_⟩
    rcases U.mem O.keys p hp' with rfl | ⟨hp', hne⟩
    · exact .inl ⟨hl, fun v' e => by cases e; exact ⟨u, by simp, r⟩⟩
    · rcases hs p hp' with ⟨a, b⟩ | ⟨a, c, o, cv, b, d', e, g, i⟩
      · exact .inl ⟨a, fun v' e => by obtain ⟨z, hz, rz⟩ := b v' e; exact ⟨z, by simp [hne, hz], rz⟩⟩
      · refine .inr ⟨a, c, o, cv, b, hsb.extBut c o (fun q => ?_) d', e, g, i⟩
        rcases g with g | g | g
        · exact hLn (List.mem_append_left _ (q ▸ g))
        · rw [q, hLoff] at g; cases g
        · exact hLn (List.mem_append_right _ (List.mem_map.mpr ⟨_, g, q⟩))
section
variable {prog : Program} {w : World} {h₀ : Heap} {d : Nat} {f : FrS} {env : Env} {γ : List (Str × MV)} {ρ ρ' : Loc} {σ : List Res} {P : MV → List Res → Prop} {pos npos : Pos}
/-- the tests of a comprehension -/
def TSTS (prog : Program) (w : World) (h₀ : Heap) (d : Nat) (f : FrS) (σ : List Res) (ifs : List Expr) (P : Bool → List Res → Prop) : Prop :=
  JJ prog w h₀ d (fun _ b a => a = b) (.fr f :: σ) [] (fun _ => forIn ifs true fun c r => if r = true then do let ok ← isTrue c f.env (eval c f.env); pure (ForInStep.yield ok) else pure (ForInStep.yield r)) (fun m σ' => ∃ τ, σ' = .fr f :: τ ∧ P m τ)
theorem TSTS_nil {P : Bool → List Res → Prop} (h : P true σ) : TSTS prog w h₀ d f σ [] P := by
  intro A s Φ F E Q vs N R kk
  exact wpAny_pure (kk true true _ Φ s.heap s.toks (.refl Φ) N.rel rfl ⟨σ, rfl, h⟩)
theorem TSTS_one {c : Expr} {P : Bool → List Res → Prop} (h : TE prog w h₀ d f σ c P) : TSTS prog w h₀ d f σ [c] P := by
  intro A s Φ F E Q vs N R kk
  have e : (forIn [c] true fun c r => if r = true then (do let ok ← isTrue c f.env (eval c f.env); pure (ForInStep.yield ok) : Sem (ForInStep Bool)) else pure (ForInStep.yield r)) = (do let ok ← isTrue c f.env (eval c f.env); pure ok) := by
    rw [List.forIn_cons]
    simp
  show wpAny _ A (forIn [c] true _) Q E s
  rw [e]
  exact h A s Φ F E _ [] N .nil kk
/-- one turn of a comprehension -/
def TURN (prog : Program) (w : World) (h₀ : Heap) (d : Nat) (f : FrS) (σ : List Res) (ifs : List Expr) (elt : Expr) (ys : List MV) (K : List MV → List Res → Prop) : Prop :=
  TSTS prog w h₀ d f σ ifs (fun ok τ => (ok = true → EV prog w h₀ d f τ elt (fun v τ' => K (ys ++ [v]) τ')) ∧ (ok = false → K ys τ))
noncomputable abbrev cfr (env : Env) (scope : Scope) (cl : List (Str × Addr)) (C : Addr) (γc : List (Str × MV)) (x : Str) (ov : Option MV) (cap : Loc) (K : List (Addr × Obj)) : FrS := ⟨compEnvC scope cl C env, (x, ov) :: cap, [], γc, K⟩
/-- what a comprehension wants of its names -/
structure CompOk (h₀ : Heap) (env : Env) (ρ : Loc) (scope : Scope) (cl : List (Str × Addr)) (x : Str) (cap : Loc) (γc : List (Str × MV)) : Prop where
  clos : closureFor scope env = pure cl
  clp : cl.Pairwise fun x y => x.2 ≠ y.2
  cell : ∀ y ∈ scope.names, y.2 ≠ .cell
  kind : scope.kind = .function
  names : ∀ x ∈ scope.names, x.2 = .local → scope.names.lookup x.1 = some .local
  var : scope.names.lookup x = some .local
  glo : ∀ p ∈ γc, (relabel scope env).names.lookup p.1 = some .globalImplicit ∧ (p.1 == ("__debug__" : Str)) = false ∧ GlobF h₀.get? p.1 p.2
  dbg : ∀ p ∈ (x, (none : Option MV)) :: cap, (p.1 == ("__debug__" : Str)) = false
  keys : (x :: cap.map (·.1)).Nodup
  cap : ∀ p ∈ cap, p ∈ ρ ∧ env.kindOf p.1 = some .cell ∧ (relabel scope env).names.lookup p.1 = some .cell ∧ cl.lookup p.1 = env.cells.lookup p.1
theorem keep_list {Φ : FMap} {h : Heap} {as : List Addr} (hl : ∀ a ∈ as, ∃ o, h.get? a = some o) : ∃ K : List (Addr × Obj), K.map (·.1) = as ∧ ∀ p ∈ K, h.get? p.1 = some p.2 := by
  induction as with
  | nil => exact ⟨[], rfl, fun _ h => nomatch h⟩
  | cons a r ih =>
    obtain ⟨K, e, hk⟩ := ih fun b hb => hl b (.tail _ hb)
    obtain ⟨o, ho⟩ := hl a (.head _)
    refine ⟨(a, o) :: K, by simp [e], fun p hp => ?_⟩
    rcases List.mem_cons.mp hp with rfl | hp
    · exact ho
    · exact hk p hp
theorem comp_block {A : Around} {s : Shared} {Φ : FMap} {F : List Res} {E : Value → Shared → Prop} {u : Value} {v : MV} {xs : List MV} {elt iter : Expr} {ifs : List Expr} {x : Str} {px : Pos} {scope : Scope} {cl : List (Str × Addr)} {cap : Loc} {γc : List (Str × MV)} {RR : Value → Addr → Result → Shared → Prop}
    (C : CompOk h₀ env ρ scope cl x cap γc) (N : Now h₀ d A Φ ((fr1 env γ ρ :: σ) ++ F) s.heap) (It : Itr v xs) (r : Rep Φ v u) (hz : xs.length ≤ sizeLine)
    (Inv : Nat → List MV → List Res → Prop) (i0 : Inv 0 [] σ)
    (step : ∀ C K i m ys τ, xs[i]? = some m → ys.length ≤ i → Inv i ys τ → TURN prog w h₀ d (cfr env scope cl C γc x (some m) cap K) τ ifs elt ys (Inv (i + 1)))
    (done : ∀ D C oC h' tk Φ' τ ys, Inv xs.length ys τ → ys.length ≤ xs.length → FLe Φ Φ' → Rel Φ' ((fr1 env γ ρ :: .list D ys :: τ) ++ .raw C oC :: F) h' → (∃ m, h'.Ns C m) → RR (.ref D) C (.ok .next) { s with heap := h', toks := tk }) :
    wpAny (model prog w) A (pyIter u) (fun it s₂ => wpAny (model prog w) A (newList []) (fun acc s₃ => wpAny (model prog w) A (newFunctionEnv scope env.globals cl [] env.qual none .none (some env)) (fun cenv s₄ =>
      codeAny (model prog w) A (.compStart (.ListComp elt [⟨.Name x px, iter, ifs, 0⟩] scope pos) 0 it acc { cenv with scope := relabel scope env }) (RR acc cenv.locals) s₄) E s₃) E s₂) E s := by
  refine itr_start It N.room.hh N.rel r ?_
  intro I o fp Pv St h1 tk1 rel1 W hP hfp hlive st0
  refine wpAny_newObj_type ?_
  have rel2 : Rel Φ ((.list h1.objs.size [] :: fr1 env γ ρ :: σ) ++ .raw I o :: F) (h1.push (listO [] 0)) := push_list (Φ0 := Φ) (σ := fr1 env γ ρ :: σ) rel1 (by simp) .nil
  generalize hD : h1.objs.size = D at rel2 ⊢
  have st2 : St 0 (h1.push (listO [] 0)) := W.frame _ _ _ st0 fun b _ o e => Heap.get?_push_of_some _ e
  show wpAny _ A _ _ E { s with heap := h1.push (listO [] 0), toks := tk1 }
  generalize hH2 : h1.push (listO [] 0) = H2 at rel2 st2 ⊢
  refine wpAny_newFunctionEnv C.cell (by intro y hy; simp at hy) (fun h3 hns3 hsb3 => ?_) C.kind
  show codeAny _ A _ _ { s with heap := h3, toks := tk1 + 0 }
  dsimp only at hns3 hsb3 ⊢
  have frC : H2.get? H2.objs.size = none := fresh_get (Nat.le_refl _)
  have k23 : ∀ b o, H2.get? b = some o → h3.get? b = some o := fun b o e => hsb3.extBut b o (Nat.ne_of_lt (Heap.lt_size e)) (Heap.get?_push_of_some _ e)
  obtain ⟨oC, esC, epC, hoC, hdC, hkC, hfC⟩ := id hns3
  have rel3 : Rel Φ (.raw H2.objs.size oC :: ((.list D [] :: fr1 env γ ρ :: σ) ++ .raw I o :: F)) h3 :=
    rel2.push_res (r := .raw H2.objs.size oC) k23 (by simp [Res.addrs]) (by intro a ha; simp [Res.addrs] at ha; subst ha; exact frC) (by intro a ha; simp [Res.addrs] at ha; subst ha; exact ⟨_, hoC⟩) hoC
  have st3 := W.frame _ _ _ st2 fun b _ o e => k23 b o e
  generalize hCC : H2.objs.size = CC at *
  -- the frame of the comprehension takes the place of its parent's
  have perm0 : (Res.raw CC oC :: ((.list D [] :: fr1 env γ ρ :: σ) ++ .raw I o :: F)).Perm ([.raw CC oC, fr1 env γ ρ] ++ (.list D [] :: σ ++ .raw I o :: F)) := (List.Perm.swap _ _ _).cons _
  have rel4 := rel3.perm perm0
  have O : FrOk Φ (fs env γ ρ) h3 := rel4.res (fr1 env γ ρ) (by simp)
  obtain ⟨K, hK, hKh⟩ := keep_list (Φ := Φ) (h := h3) (as := (fr1 env γ ρ).addrs) fun a ha => rel4.live a (by rw [foot_append, foot_cons, foot_cons]; exact List.mem_append_left _ (List.mem_append_right _ (List.mem_append_left _ ha)))
  have hlk : ∀ p ∈ cap, SlotOk Φ (cfr env scope cl CC γc x none cap K) h3 (fun x => ([] : List (Str × Value)).reverse.lookup x) p.1 p.2 := by
    intro p hp
    obtain ⟨hm, hk, hk2, hcl⟩ := C.cap p hp
    obtain ⟨m, hn, hs⟩ := O.ns
    rcases hs p hm with ⟨a, _⟩ | ⟨_, c, o', cv, b, d', e, g, i⟩
    · exact absurd (hk.symm.trans a) (by simp)
    · refine .inr ⟨hk2, c, o', cv, hcl.trans b, d', e, ?_, i⟩
      rcases g with g | g | g
      · have : c ∈ K.map (·.1) := by rw [hK]; exact .tail _ (List.mem_append_left _ g)
        obtain ⟨q, hq, rfl⟩ := List.mem_map.mp this
        have := hKh q hq
        rw [d'] at this; cases this
        exact .inr (.inr hq)
      · exact .inr (.inl g)
      · exact nomatch g
  have relF : Rel Φ ([.fr (cfr env scope cl CC γc x none cap K)] ++ (.list D [] :: σ ++ .raw I o :: F)) h3 := by
    refine rel4.repl ?_ ?_
    · have : (foot [Res.raw CC oC, fr1 env γ ρ]) = CC :: (fr1 env γ ρ).addrs := by simp [foot, Res.addrs]
      rw [this, ← hK]
      have : foot [Res.fr (cfr env scope cl CC γc x none cap K)] = CC :: K.map (·.1) := by simp [foot, Res.addrs, compEnvC]
      rw [this]
    · intro r hr
      simp at hr; subst hr
      refine ⟨C.kind, O.glob, O.bi, fun p hp => ⟨(C.glo p hp).1, (C.glo p hp).2.1, (C.glo p hp).2.2.mono N.base⟩, fun p hp => ?_, ?_, C.clp, hKh, _, hns3, fun p hp => ?_⟩
      · rcases List.mem_cons.mp hp with rfl | hp
        · exact C.dbg (x, none) (.head _)
        · exact C.dbg p (.tail _ hp)
      · exact C.keys
      · rcases List.mem_cons.mp hp with rfl | hp
        · exact .inl ⟨lookup_relabel_local C.var, fun v e => nomatch e⟩
        · exact hlk p hp
  -- the loop
  have loop : ∀ s₃ : Shared, s₃ = { s with heap := h3, toks := tk1 + 0 } →
      codeAny (model prog w) A (.compLoop (.ListComp elt [⟨.Name x px, iter, ifs, 0⟩] scope pos) 0 (.ref I) (.ref D) (compEnvC scope cl CC env)) (RR (.ref D) CC) s₃ := by
    rintro s₃ rfl
    refine codeAny_compLoop_tests (fun k s' => ∃ h' tk i ov ys τ Φ' o', s' = { s with heap := h', toks := tk } ∧ FLe Φ Φ' ∧ Rel Φ' ((.fr (cfr env scope cl CC γc x ov cap K) :: .list D ys :: τ) ++ .raw I o' :: F) h' ∧ St i h' ∧ Inv i ys τ ∧ ys.length ≤ i ∧ i ≤ xs.length ∧ k = xs.length + 1 - i) ?_ (xs.length + 1)
      ⟨h3, tk1 + 0, 0, none, [], σ, Φ, o, rfl, .refl Φ, relF, st3, i0, Nat.le_refl _, Nat.zero_le _, rfl⟩
    rintro k s' ⟨h1, tk1, i, ov, ys, τ1, Φ1, o1, rfl, le1, rel1, st1, inv1, hys, hi, rfl⟩
    by_cases hlt : i < xs.length
    · refine W.item i _ _ _ hlt st1 fun v h2 tk2 hv st2 k2 => ?_
      obtain ⟨m, hm, rm⟩ := hP i v hv
      obtain ⟨o2, ho2⟩ := hlive _ _ st2
      have rel2 : Rel Φ1 ((.fr (cfr env scope cl CC γc x ov cap K) :: .list D ys :: τ1) ++ .raw I o2 :: F) h2 := ((rel1.perm permM).raw_upd (fun b o hb e => k2 b o (by simpa using hb) e) ho2).perm permM.symm
      refine wpAny_assign_Name (store_local (s := { s with heap := h2, toks := tk2 }) (f := cfr env scope cl CC γc x ov cap K) _ rel2 (rm.mono le1) (.head) (lookup_relabel_local C.var) fun h3 tk3 rel3 => ?_)
      have rel3' : Rel Φ1 ((.fr (cfr env scope cl CC γc x (some m) cap K) :: .list D ys :: τ1) ++ .raw I o2 :: F) h3 := rel3
      have st3 := W.frame _ _ _ st2 (keep_fp hfp le1 (.refl _) rel2 rel3')
      have rel3'' : Rel Φ1 ((.fr (cfr env scope cl CC γc x (some m) cap K) :: τ1) ++ (.list D ys :: .raw I o2 :: F)) h3 := rel3'.perm (by
        refine List.Perm.cons _ ?_
        exact (List.perm_middle (l₁ := τ1) (a := Res.list D ys) (l₂ := .raw I o2 :: F)).symm)
      have swp : ∀ {f : Res} {ys : List MV} {τ : List Res}, ((f :: τ) ++ (.list D ys :: .raw I o2 :: F)).Perm ((f :: .list D ys :: τ) ++ .raw I o2 :: F) := fun {f ys τ} => List.Perm.cons _ (List.perm_middle (l₁ := τ) (a := Res.list D ys) (l₂ := .raw I o2 :: F))
      refine step CC K i m ys τ1 hm hys inv1 A { s with heap := h3, toks := tk3 } Φ1 (.list D ys :: .raw I o2 :: F) _ _ [] ⟨N.room, fun a o e => le1 a o (N.base a o e), rel3''⟩ .nil ?_
      rintro ok _ σ4 Φ4 h4 tk4 le4 rel4 rfl ⟨τ4, rfl, hp⟩
      have le14 := le1.trans le4
      have st4 := W.frame _ _ _ st3 (keep_fp hfp le1 le4 rel3' (rel4.perm swp))
      cases ok with
      | false =>
        rw [if_neg (by decide)]
        exact ⟨xs.length - i, by lia, h4, tk4, i + 1, some m, ys, τ4, Φ4, o2, rfl, le14, rel4.perm swp, st4, hp.2 rfl, by lia, by lia, by lia⟩
      | true =>
        rw [if_pos rfl]
        refine hp.1 rfl A { s with heap := h4, toks := tk4 } Φ4 (.list D ys :: .raw I o2 :: F) _ _ [] ⟨N.room, fun a o e => le14 a o (N.base a o e), rel4⟩ .nil ?_
        rintro y my σ5 Φ5 h5 tk5 le5 rel5 rep5 ⟨τ5, rfl, hp⟩
        have le15 := le14.trans le5
        have st5 := W.frame _ _ _ st4 (keep_fp hfp le14 le5 (rel4.perm swp) (rel5.perm swp))
        have pm : ∀ {f : Res} {ys : List MV} {τ : List Res}, ((f :: τ) ++ (.list D ys :: .raw I o2 :: F)).Perm ([.list D ys] ++ ((f :: τ) ++ .raw I o2 :: F)) := fun {f ys τ} => List.perm_middle (l₁ := f :: τ) (a := Res.list D ys) (l₂ := .raw I o2 :: F)
        refine CALL_append (prog := prog) (w := w) (h₀ := h₀) (d := d) (P := fun v τ => v = .none ∧ τ = [.list D (ys ++ [my])]) (a := D) (xs := ys) (m := my) UpdR.head (by lia) ⟨rfl, rfl⟩ A { s with heap := h5, toks := tk5 } Φ5 ((.fr (cfr env scope cl CC γc x (some m) cap K) :: τ5) ++ .raw I o2 :: F) _ _
          [.builtin "list.append", .ref D, y] ⟨N.room, fun a o e => le15 a o (N.base a o e), rel5.perm pm⟩ (.cons (.ext _) (.cons (.ref _) (.cons rep5 .nil))) ?_
        rintro _ _ σ6 Φ6 h6 tk6 le6 rel6 _ ⟨_, rfl⟩
        have rel6' := (rel6.perm pm.symm).perm swp
        have st6 := W.frame _ _ _ st5 (keep_fp hfp le15 le6 (rel5.perm swp) rel6')
        exact ⟨xs.length - i, by lia, h6, tk6, i + 1, some m, ys ++ [my], τ5, Φ6, o2, rfl, le15.trans le6, rel6', st6, hp, by simp; lia, by lia, by lia⟩
    · obtain rfl : i = xs.length := by lia
      refine W.done _ _ _ st1 fun h2 tk2 k2 => ?_
      have rel2 : Rel Φ1 ((.fr (cfr env scope cl CC γc x ov cap K) :: .list D ys :: τ1) ++ F) h2 := (rel1.perm permM).but fun b o hb e => k2 b o (by simpa using hb) e
      have Oc : FrOk Φ1 (cfr env scope cl CC γc x ov cap K) h2 := rel2.head
      obtain ⟨m, hn, _⟩ := Oc.ns
      obtain ⟨o2, es2, ep2, ho2, r2⟩ := id hn
      refine done D CC o2 h2 tk2 Φ1 τ1 ys inv1 hys le1 ?_ ⟨m, hn⟩
      have rel3 : Rel Φ1 ([.raw CC o2, fr1 env γ ρ] ++ (.list D ys :: τ1 ++ F)) h2 := by
        refine Rel.repl (rs := [.fr (cfr env scope cl CC γc x ov cap K)]) rel2 ?_ ?_
        · have : (foot [Res.raw CC o2, fr1 env γ ρ]) = CC :: (fr1 env γ ρ).addrs := by simp [foot, Res.addrs]
          rw [this, ← hK]
          have : foot [Res.fr (cfr env scope cl CC γc x ov cap K)] = CC :: K.map (·.1) := by simp [foot, Res.addrs, compEnvC]
          rw [this]
        · intro r hr
          simp at hr
          rcases hr with rfl | rfl
          · exact ho2
          · refine Res.Holds.frame (r := fr1 env γ ρ) (h := h3) (Res.Holds.mono (r := fr1 env γ ρ) le1 O) (fun a ha o e => ?_) rel2.le
            rw [← hK] at ha
            obtain ⟨p, hp, rfl⟩ := List.mem_map.mp ha
            have e1 := hKh p hp
            rw [e] at e1; cases e1
            exact Oc.kept p hp
      exact (rel3.perm ((List.Perm.refl _).trans (permM (r := fr1 env γ ρ) (x := .raw CC o2) (τ := .list D ys :: τ1) (G := F)).symm))
  exact codeAny_compStart_list (loop _ rfl) (W.self 0 _ _ _ st3 (loop _ rfl))
/-- a list comprehension -/
theorem EV_comp {elt iter : Expr} {ifs : List Expr} {x : Str} {px : Pos} {scope : Scope} {cl : List (Str × Addr)} {cap : Loc} {γc : List (Str × MV)} {xs : List MV} (C : CompOk h₀ env ρ scope cl x cap γc)
    (Inv : Nat → List MV → List Res → Prop) (h : EV prog w h₀ d (fs env γ ρ) σ iter (fun v τ => Itr v xs ∧ xs.length ≤ sizeLine ∧ Inv 0 [] τ))
    (step : ∀ C K i m ys τ, xs[i]? = some m → ys.length ≤ i → Inv i ys τ → TURN prog w h₀ d (cfr env scope cl C γc x (some m) cap K) τ ifs elt ys (Inv (i + 1)))
    (fin : ∀ D ys τ, Inv xs.length ys τ → P (.ref D) (.list D ys :: τ)) (hs : ∀ x, foldedSetIterable iter env x = pure x := by intro _; rfl) :
    EV prog w h₀ d (fs env γ ρ) σ (.ListComp elt [⟨.Name x px, iter, ifs, 0⟩] scope pos) P := by
  intro A s Φ F E Q vs N R kk
  rw [show (fs env γ ρ).env = env from rfl, eval_ListComp]
  refine wpAny_comprehension_free (use := none) rfl hs C.clos C.kind C.names (h A s Φ F E _ [] N .nil ?_)
  rintro u v σ1 Φ1 h1 tk1 le1 rel1 rep1 ⟨τ, rfl, It, hz, inv⟩
  refine comp_block (RR := fun acc CC => compPost (model prog w) A E none Q acc CC) C ⟨N.room, fun a o e => le1 a o (N.base a o e), rel1⟩ It rep1 hz Inv inv step ?_
  intro D CC oC h2 tk2 Φ2 τ2 ys inv2 hys le2 rel2 hns
  obtain ⟨m, hn⟩ := hns
  refine ⟨m, hn, fun h3 hs3 => ?_⟩
  exact kk (.ref D) (.ref D) _ Φ2 h3 tk2 (le1.trans le2) ((rel2.perm permM).but fun b o hb e => hs3.extBut b o hb e) (.ref D) ⟨_, rfl, fin D ys τ2 inv2⟩
/-- a comprehension stored into a plain local -/
theorem X1_comp {PX : FL → Loc → List Res → Prop} {elt iter : Expr} {ifs : List Expr} {x y : Str} {px py spos : Pos} {scope : Scope} {cl : List (Str × Addr)} {cap : Loc} {γc : List (Str × MV)} {xs : List MV} (C : CompOk h₀ env ρ scope cl x cap γc)
    (Inv : Nat → List MV → List Res → Prop) (h : EV prog w h₀ d (fs env γ ρ) σ iter (fun v τ => Itr v xs ∧ xs.length ≤ sizeLine ∧ Inv 0 [] τ))
    (step : ∀ C K i m ys τ, xs[i]? = some m → ys.length ≤ i → Inv i ys τ → TURN prog w h₀ d (cfr env scope cl C γc x (some m) cap K) τ ifs elt ys (Inv (i + 1)))
    (fin : ∀ D ys τ, Inv xs.length ys τ → ∃ ρ', UpdL y (.ref D) ρ ρ' ∧ PX .next ρ' (.list D ys :: τ))
    (hsw : swapsWith (.ListComp elt [⟨.Name x px, iter, ifs, 0⟩] scope pos) (some (.Name y py)) spos.line env = pure true := by rfl) (hs : ∀ x, foldedSetIterable iter env x = pure x := by intro _; rfl) :
    X1 prog w h₀ d env γ ρ σ (.Assign [.Name y py] (.ListComp elt [⟨.Name x px, iter, ifs, 0⟩] scope pos) spos) PX := by
  intro A s Φ F E Q vs N R kk
  rw [exec_Assign_Name_used _ _ _ _ hsw]
  refine wpAny_bind (wpAny_standAt (wpAny_bind ?_))
  show wpAny _ A (do let _ ← comprehension (.ListComp elt [⟨.Name x px, iter, ifs, 0⟩] scope pos) scope env _ (newList []) false (eval iter env) (some (assign (.Name y py) env))) _ _ s
  refine wpAny_bind (wpAny_mono (wpAny_comprehension_free (use := some (assign (.Name y py) env)) (Q := fun _ s' => Q .next s') rfl hs C.clos C.kind C.names
    (h A s Φ F E _ [] N .nil ?_)) (fun _ s' hq => wpAny_pure (wpAny_pure hq)) fun _ _ e => e)
  rintro u v σ1 Φ1 h1 tk1 le1 rel1 rep1 ⟨τ, rfl, It, hz, inv⟩
  refine comp_block (RR := fun acc CC => compPost (model prog w) A E (some (assign (.Name y py) env)) (fun _ s' => Q .next s') acc CC) C ⟨N.room, fun a o e => le1 a o (N.base a o e), rel1⟩ It rep1 hz Inv inv step ?_
  intro D CC oC h2 tk2 Φ2 τ2 ys inv2 hys le2 rel2 hns
  obtain ⟨m, hn⟩ := hns
  obtain ⟨ρ', U, hp⟩ := fin D ys τ2 inv2
  show wpAny _ A (assign (.Name y py) env (.ref D)) _ _ _
  refine wpAny_assign_Name (store_name (s := { s with heap := h2, toks := tk2 }) _ rel2 (.ref D) U fun h3 tk3 rel3 => ?_)
  have e2 : h2.get? CC = some oC := rel2.res (.raw CC oC) (by simp)
  have e3 : h3.get? CC = some oC := rel3.res (.raw CC oC) (by simp)
  refine ⟨m, ns_at hn (fun o e => by rw [e2] at e; cases e; exact e3), fun h4 hs4 => ?_⟩
  exact kk .next .next _ Φ2 h4 tk3 (le1.trans le2) ((rel3.perm permM).but fun b o hb e => hs4.extBut b o hb e) .next ⟨ρ', _, rfl, hp⟩
end
end Mine
open PySem PySem.W PySem.Calls PyProof.Rows
set_option Elab.async false
set_option maxRecDepth 100000
set_option linter.unusedVariables false
namespace Mine
section
variable {prog : Program} {w : World} {h₀ : Heap} {d : Nat} {f : FrS} {env : Env} {γ : List (Str × MV)} {ρ ρ' : Loc} {σ σ' : List Res} {P : MV → List Res → Prop} {xs ys : List MV} {a : Addr} {m : MV} {u v : MV} {pos ppos : Pos}
/-- v can be read as the list xs -/
def SL (h₀ : Heap) (σ : List Res) (v : MV) (xs : List MV) : Prop :=
  ∀ (Φ : FMap) (F : List Res) (h : Heap) (u : Value), (∀ a o, h₀.get? a = some o → Φ a = some o) → Rel Φ (σ ++ F) h → Rep Φ v u → ∃ a vs, u = .ref a ∧ h.IsList a vs.toArray ∧ vs.length ≤ sizeLine ∧ Reps Φ xs vs
theorem IsL.sl (I : IsL σ v xs) : SL h₀ σ v xs := fun Φ F h u _ rel r => I.real rel r
theorem slice_end {s : Shared} {Q : Value → Shared → Prop} {Φ : FMap} {F : List Res} {vl vu vk : Value} {zs : List Value} (rel : Rel Φ ((.fr f :: σ) ++ F) s.heap) (hz : zs.length ≤ sizeLine) (rs : Reps Φ ys zs)
    (kk : ∀ D h', Rel Φ ((.fr f :: .list D ys :: σ) ++ F) h' → Q (.ref D) { s with heap := h' }) : Q (.ref (s.heap.objs.size + 1)) { s with heap := (s.heap.push { cls := .type "slice", data := .fields #[vl, vu, vk] }).push { cls := .type "list", data := .seq zs.toArray } } := by
  have rel1 : Rel Φ ((.fr f :: σ) ++ F) (s.heap.push { cls := .type "slice", data := .fields #[vl, vu, vk] }) := rel.kept fun _ _ e => Heap.get?_push_of_some _ e
  have rel2 := push_list (Φ0 := Φ) (σ := .fr f :: σ) rel1 hz rs
  rw [Heap.size_push] at rel2
  exact kk _ _ (rel2.perm ((List.Perm.swap _ _ _).append_right F))
theorem EV_slice_upto {value hi : Expr} {b : Nat} (h : EV prog w h₀ d f σ value (fun v σ1 => EV prog w h₀ d f σ1 hi (fun n σ2 => n = .int b ∧ SL h₀ (.fr f :: σ2) v xs ∧ ∀ D, P (.ref D) (.list D (xs.take b) :: σ2))))
    (ht : ∀ o r, letTemporaryGo value o r = pure () := by intro _ _; rfl) : EV prog w h₀ d f σ (.Subscript value (.Slice none (some hi) none ppos) pos) P := by
  intro A s Φ F E Q vs N R kk
  refine wpAny_Subscript_list_slice (h A s Φ F E _ [] N .nil ?_) ht
  rintro x v σ1 Φ1 h1 tk1 le1 rel1 rep1 ⟨τ, rfl, h⟩
  rw [evalPart_none]
  refine wpAny_pure ?_
  rw [evalPart_some]
  refine h A { s with heap := h1, toks := tk1 } Φ1 F E _ [] (N.next le1 rel1) .nil ?_
  rintro y n σ2 Φ2 h2 tk2 le2 rel2 rep2 ⟨τ2, rfl, rfl, hsl, hp⟩
  (first | obtain ⟨_, rfl⟩ := rep2.inv_int | obtain rfl := rep2.inv_ref | obtain rfl := rep2.inv_none | obtain rfl := rep2.inv_bool | cases rep2)
  obtain ⟨l, ws, rfl, hl, hz, rs⟩ := hsl Φ2 F h2 x (fun a o e => le2 a o (le1 a o (N.base a o e))) rel2 (rep1.mono le2)
  refine ⟨l, ws.toArray, none, some (b : Int), rfl, hl, by simpa using hz, .none, .int _ _, ?_⟩
  rw [slicePick_upto']
  refine slice_end (s := { s with heap := h2, toks := tk2 }) rel2 (by simp; lia) (rs.take b) fun D h' rel' => ?_
  exact kk (.ref D) (.ref D) _ Φ2 h' tk2 (le1.trans le2) rel' (.ref D) ⟨_, rfl, hp D⟩
theorem EV_slice_from {value lo : Expr} {b : Nat} (h : EV prog w h₀ d f σ value (fun v σ1 => EV prog w h₀ d f σ1 lo (fun n σ2 => n = .int b ∧ SL h₀ (.fr f :: σ2) v xs ∧ ∀ D, P (.ref D) (.list D (xs.drop b) :: σ2))))
    (ht : ∀ o r, letTemporaryGo value o r = pure () := by intro _ _; rfl) : EV prog w h₀ d f σ (.Subscript value (.Slice (some lo) none none ppos) pos) P := by
  intro A s Φ F E Q vs N R kk
  refine wpAny_Subscript_list_slice (h A s Φ F E _ [] N .nil ?_) ht
  rintro x v σ1 Φ1 h1 tk1 le1 rel1 rep1 ⟨τ, rfl, h⟩
  rw [evalPart_some]
  refine h A { s with heap := h1, toks := tk1 } Φ1 F E _ [] (N.next le1 rel1) .nil ?_
  rintro y n σ2 Φ2 h2 tk2 le2 rel2 rep2 ⟨τ2, rfl, rfl, hsl, hp⟩
  rw [evalPart_none]
  refine wpAny_pure ?_
  (first | obtain ⟨_, rfl⟩ := rep2.inv_int | obtain rfl := rep2.inv_ref | obtain rfl := rep2.inv_none | obtain rfl := rep2.inv_bool | cases rep2)
  obtain ⟨l, ws, rfl, hl, hz, rs⟩ := hsl Φ2 F h2 x (fun a o e => le2 a o (le1 a o (N.base a o e))) rel2 (rep1.mono le2)
  refine ⟨l, ws.toArray, some (b : Int), none, rfl, hl, by simpa using hz, .int _ _, .none, ?_⟩
  rw [slicePick_from']
  refine slice_end (s := { s with heap := h2, toks := tk2 }) rel2 (by simp; lia) (rs.drop b) fun D h' rel' => ?_
  exact kk (.ref D) (.ref D) _ Φ2 h' tk2 (le1.trans le2) rel' (.ref D) ⟨_, rfl, hp D⟩
/-- the last of a list -/
theorem SUB_last {value slice : Expr} {m : MV} (I : IsL σ v (xs ++ [m])) (h : P m σ)
    (hs : ∀ o i, subscripted slice false o i = operate [o, i] (getItem o i) := by intros; with_unfolding_all rfl) : SUB prog w h₀ d σ value slice v (.int (-1)) P := by
  intro A s Φ F E Q vs N R kk
  obtain ⟨u, k, rfl, r1, r2⟩ := R.two
  (first | obtain ⟨_, rfl⟩ := r2.inv_int | obtain rfl := r2.inv_ref | obtain rfl := r2.inv_none | obtain rfl := r2.inv_bool | cases r2)
  obtain ⟨a, ws, rfl, hl, hz, rs⟩ := I.real N.rel r1
  have hlen := rs.length
  obtain ⟨y, hy, ry⟩ := rs.get (i := xs.length) (m := m) (by simp)
  have h63 := sizeLine63 hz
  simp at hlen
  refine tail_any hl.typeIs slot_list_getitem.lookup (wpAny_getItem_list_neg (k := -1) hl (by decide) (by rw [List.size_toArray]; lia) (by decide) (x := y) ?_ ?_) (hs _ _)
  · have e2 : ((-1 : Int) + (ws.toArray.size : Int)).toNat = xs.length := by rw [List.size_toArray]; lia
    rw [e2]; simpa using hy
  · exact kk y m _ Φ s.heap s.toks (.refl Φ) N.rel ry h
/-- a store into an item -/
theorem AS_sub {o i : Expr} {P : Loc → List Res → Prop} (h : EV prog w h₀ d (fs env γ ρ) σ o (fun ov σ1 => EV prog w h₀ d (fs env γ ρ) σ1 i (fun iv σ2 => SETI prog w h₀ d σ2 ov iv v (fun σ3 => P ρ σ3)))) : AS prog w h₀ d env γ ρ σ (.Subscript o i pos) v P := by
  intro A s Φ F E Q vs N R kk
  obtain ⟨x, rfl, rx⟩ := R.one
  show wpAny _ A (assign (.Subscript o i pos) env x) Q E s
  refine kas_sub (h A s Φ F E _ [] N .nil ?_)
  rintro ov mo σ1 Φ1 h1 tk1 le1 rel1 rep1 ⟨τ, rfl, h⟩
  refine h A { s with heap := h1, toks := tk1 } Φ1 F E _ [] (N.next le1 rel1) .nil ?_
  rintro iv mi σ2 Φ2 h2 tk2 le2 rel2 rep2 ⟨τ2, rfl, h⟩
  refine h A { s with heap := h2, toks := tk2 } Φ2 (fr1 env γ ρ :: F) E _ [ov, iv, x] (N.next (le1.trans le2) (rel2.perm permF)) (.cons (rep1.mono le2) (.cons rep2 (.cons (rx.mono (le1.trans le2)) .nil))) ?_
  rintro _ _ σ3 Φ3 h3 tk3 le3 rel3 _ hp
  exact kk () () _ Φ3 h3 tk3 (le1.trans (le2.trans le3)) (rel3.perm permF.symm) trivial ⟨ρ, σ3, rfl, hp⟩
/-- values of ints -/
theorem Reps.ints {Φ : FMap} : ∀ {ns : List Int} {vs : List Value}, Reps Φ (ns.map .int) vs → IntsAre vs ns
  | [], _, h => by cases h; exact .nil
  | n :: ns, _, h => by
    cases h with | cons r h => ?_
    (first | obtain ⟨_, rfl⟩ := r.inv_int | obtain rfl := r.inv_ref | obtain rfl := r.inv_none | obtain rfl := r.inv_bool | cases r)
    exact .cons _ _ h.ints
theorem ints_reps {Φ : FMap} {ns : List Int} {vs : List Value} (h : IntsAre vs ns) : Reps Φ (ns.map .int) vs := by
  induction h with
  | nil => exact .nil
  | cons n t _ ih => exact .cons (.int n t) ih
theorem CALL_sum {ns : List Int} (I : IsL σ v (ns.map .int)) (h : P (.int ns.sum) σ) : CALL prog w h₀ d σ (.ext (.builtin "sum")) [v] P := by
  intro A s Φ F E Q vs N R kk
  obtain ⟨x, y, rfl, r1, r2⟩ := R.two
  cases r1.ext_inv
  obtain ⟨a, us, rfl, hl, hz1, rs1⟩ := I.real N.rel r2
  have hi := rs1.ints
  obtain ⟨xs, e⟩ := hi.allInts.items
  rw [e] at hl
  refine sum_intListG N.room.hh hl fun h' tk t' hk => ?_
  rw [preSum_eq, List.take_of_length_le (by simp), ← nums_intItems, ← e, hi.numsOf]
  exact kk _ (.int ns.sum) σ Φ h' tk (.refl Φ) (N.rel.kept hk) (.int _ _) h
theorem CALL_min {a b : Int} (h : P (.int (min a b)) σ) : CALL prog w h₀ d σ (.ext (.builtin "min")) [.int a, .int b] P := by
  intro A s Φ F E Q vs N R kk
  obtain ⟨x, y, z, rfl, r1, r2, r3⟩ := R.three
  cases r1.ext_inv
  (first | obtain ⟨_, rfl⟩ := r2.inv_int | obtain rfl := r2.inv_ref | obtain rfl := r2.inv_none | obtain rfl := r2.inv_bool | cases r2); (first | obtain ⟨_, rfl⟩ := r3.inv_int | obtain rfl := r3.inv_ref | obtain rfl := r3.inv_none | obtain rfl := r3.inv_bool | cases r3)
  refine min_two_ints N.room.hh fun h' tk hk => ?_
  by_cases hlt : b < a
  · rw [if_pos hlt]; rw [show min a b = b by lia] at h; exact kk _ (.int b) σ Φ h' tk (.refl Φ) (N.rel.kept hk) (.int _ _) h
  · rw [if_neg hlt]; rw [show min a b = a by lia] at h; exact kk _ (.int a) σ Φ h' tk (.refl Φ) (N.rel.kept hk) (.int _ _) h
theorem CALL_sorted {ns : List Int} (I : IsL σ v (ns.map .int)) (h64 : ns.length < 64) (h : ∀ ns' : List Int, ns'.Perm ns → ns'.Pairwise (· ≤ ·) → P (.list (ns'.map .int)) σ) : CALL prog w h₀ d σ (.ext (.builtin "sorted")) [v] P := by
  intro A s Φ F E Q vs N R kk
  obtain ⟨x, y, rfl, r1, r2⟩ := R.two
  cases r1.ext_inv
  obtain ⟨a, us, rfl, hl, hz1, rs1⟩ := I.real N.rel r2
  have hi := rs1.ints
  have hlen := rs1.length
  simp at hlen
  refine sorted_ints hl hi (by lia) fun out ns' a1 a2 a3 => ?_
  obtain ⟨e, he⟩ := sortedAll_at s.heap us out
  have fr : s.heap.get? (s.heap.objs.size + 1) = none := fresh_get (Nat.le_succ _)
  have rel := N.rel.push_frozen (h' := sortedAll s.heap us out) (fun _ _ => sortedAll_old) fr he
  have le := ext1_le (o := seqObj "list" out e) (N.rel.fresh_none fr)
  have hl2 : out.toList.length ≤ sizeLine := by rw [a1.length, a2.length_eq]; unfold sizeLine; lia
  refine kk _ (.list (ns'.map .int)) σ _ _ s.toks le rel (.list (vs := out.toList) (n := e) (ext1_self ..) ?_ ?_ hl2 (ints_reps a1)) (h ns' a2 a3)
  · rw [Array.toArray_toList]
  · rw [Array.toArray_toList]
/-! dicts with int keys -/
theorem intKeys_of {es : Array DictEntry} (h : IntKeys es) : KeysOf (intKind prog w) es := fun e he => by
  obtain ⟨k, t, h1, h2⟩ := h e he; exact ⟨k, by rw [h1]; simp [intKind, Value.isInt], h2⟩
theorem of_intKeys {es : Array DictEntry} (h : KeysOf (intKind prog w) es) : IntKeys es := fun e he => by
  obtain ⟨k, h1, h2⟩ := h e he; obtain ⟨t, h3⟩ := Value.isInt_shape h1; exact ⟨k, t, h3, h2⟩
/-- v is a dict with int keys -/
def IsM (h₀ : Heap) (σ : List Res) (v : MV) (g : Int → Option MV) : Prop := v = .imap g ∨ ∃ a n, v = .ref a ∧ .imap a g n ∈ σ
theorem IsM.real {F : List Res} {g : Int → Option MV} {Φ : FMap} {h : Heap} {u : Value} (I : IsM h₀ σ v g) (rel : Rel Φ (σ ++ F) h) (r : Rep Φ v u) :
    ∃ a fv, u = .ref a ∧ (a == sysModules) = false ∧ h.MapOf (intKind prog w) a fv ∧ (∀ k, g k = none → fv k = none) ∧ ∀ k m, g k = some m → ∃ x, fv k = some x ∧ Rep Φ m x := by
  rcases I with rfl | ⟨a, n, rfl, hm⟩
  · cases r with
    | imap ho hm h1 h2 h3 =>
      rename_i gv a o es
      obtain ⟨ep, hd⟩ := hm.2.dat
      exact ⟨a, _, rfl, hm.1, ⟨o, es, ep, rel.le _ _ ho, hm.2.ex, hd, intKeys_of hm.2.keys, fun k => rfl⟩, h1, fun k m hk => ⟨_, h2 k m hk, h3 k m hk⟩⟩
  · (first | obtain ⟨_, rfl⟩ := r.inv_int | obtain rfl := r.inv_ref | obtain rfl := r.inv_none | obtain rfl := r.inv_bool | cases r)
    obtain ⟨o, es, gv, ho, hm, h1, h2, h3⟩ := rel.res _ (List.mem_append_left _ hm)
    obtain ⟨ep, hd⟩ := hm.2.1.dat
    exact ⟨a, _, rfl, hm.1, ⟨o, es, ep, ho, hm.2.1.ex, hd, intKeys_of hm.2.1.keys, fun k => rfl⟩, h1, fun k m hk => ⟨_, h2 k m hk, h3 k m hk⟩⟩
theorem SUB_map {value slice : Expr} {g : Int → Option MV} {i : Int} (I : IsM h₀ σ v g) (hx : g i = some m) (h : P m σ)
    (hs : ∀ o i, subscripted slice false o i = operate [o, i] (getItem o i) := by intros; with_unfolding_all rfl) : SUB prog w h₀ d σ value slice v (.int i) P := by
  intro A s Φ F E Q vs N R kk
  obtain ⟨u, k, rfl, r1, r2⟩ := R.two
  (first | obtain ⟨_, rfl⟩ := r2.inv_int | obtain rfl := r2.inv_ref | obtain rfl := r2.inv_none | obtain rfl := r2.inv_bool | cases r2)
  obtain ⟨a, fv, rfl, hns, hm, _, h2⟩ := I.real (prog := prog) (w := w) N.rel r1
  obtain ⟨x, hx', rx⟩ := h2 i m hx
  refine tail_any hm.typeIs slot_dict_getitem.lookup (wpAny_getItem_of (k := i) (by simp [intKind, Value.isInt]) hm hx' ?_) (hs _ _)
  exact kk x m _ Φ s.heap _ (.refl Φ) N.rel rx h
theorem CMP_in {g : Int → Option MV} {i : Int} {PB : Bool → List Res → Prop} (I : IsM h₀ σ v g) (h : PB (g i).isSome σ) : CMP prog w h₀ d σ .In (.int i) v PB := by
  intro A s Φ F E Q vs N R kk
  obtain ⟨u, k, rfl, r1, r2⟩ := R.two
  (first | obtain ⟨_, rfl⟩ := r1.inv_int | obtain rfl := r1.inv_ref | obtain rfl := r1.inv_none | obtain rfl := r1.inv_bool | cases r1)
  obtain ⟨a, fv, rfl, hns, hm, h1, h2⟩ := I.real (prog := prog) (w := w) N.rel r2
  have e : (fv i).isSome = (g i).isSome := by
    cases hg : g i with
    | none => rw [h1 i hg]; rfl
    | some m => obtain ⟨x, hx, _⟩ := h2 i m hg; rw [hx]; rfl
  refine wpAny_in_of (k := i) (by simp [intKind, Value.isInt]) hns hm ?_
  rw [e]
  exact kk _ _ σ Φ s.heap _ (.refl Φ) N.rel rfl h
theorem CMP_notin {g : Int → Option MV} {i : Int} {PB : Bool → List Res → Prop} (I : IsM h₀ σ v g) (h : PB (!(g i).isSome) σ) : CMP prog w h₀ d σ .NotIn (.int i) v PB := by
  intro A s Φ F E Q vs N R kk
  obtain ⟨u, k, rfl, r1, r2⟩ := R.two
  (first | obtain ⟨_, rfl⟩ := r1.inv_int | obtain rfl := r1.inv_ref | obtain rfl := r1.inv_none | obtain rfl := r1.inv_bool | cases r1)
  obtain ⟨a, fv, rfl, hns, hm, h1, h2⟩ := I.real (prog := prog) (w := w) N.rel r2
  have e : (fv i).isSome = (g i).isSome := by
    cases hg : g i with
    | none => rw [h1 i hg]; rfl
    | some m => obtain ⟨x, hx, _⟩ := h2 i m hg; rw [hx]; rfl
  refine wpAny_notIn_of (k := i) (by simp [intKind, Value.isInt]) hns hm ?_
  rw [e]
  exact kk _ _ σ Φ s.heap _ (.refl Φ) N.rel rfl h
theorem EV_dict0 (hsm : ∃ o, h₀.get? sysModules = some o) (h : ∀ D, P (.ref D) (.imap D (fun _ => none) 0 :: σ)) : EV prog w h₀ d f σ (.Dict [] [] pos) P := by
  intro A s Φ F E Q vs N R kk
  refine wpAny_Dict_empty ?_
  have fr : s.heap.get? s.heap.objs.size = none := fresh_get (Nat.le_refl _)
  have g := Heap.get?_push_size s.heap (o := { cls := .type "dict", data := .dict #[] }) rfl
  have hne : (s.heap.objs.size == sysModules) = false := by
    obtain ⟨o, ho⟩ := hsm
    have := Heap.lt_size (N.heap _ _ ho)
    rw [beq_eq_false_iff_ne]
    exact Nat.ne_of_gt this
  refine kk (.ref s.heap.objs.size) (.ref s.heap.objs.size) (.fr f :: .imap s.heap.objs.size (fun _ => none) 0 :: σ) Φ _ _ (.refl Φ) (Rel.perm (N.rel.push_res (r := .imap s.heap.objs.size (fun _ => none) 0) (fun _ _ e => Heap.get?_push_of_some _ e) (by simp [Res.addrs]) ?_ ?_ ?_) (List.Perm.swap _ _ _)) (.ref _) ⟨_, rfl, h _⟩
  · intro a ha; simp [Res.addrs] at ha; subst ha; exact fr
  · intro a ha; simp [Res.addrs] at ha; subst ha; exact ⟨_, g⟩
  · exact ⟨_, #[], fun _ => .none, g, ⟨hne, ⟨⟨rfl, rfl, rfl⟩, ⟨0, rfl⟩, fun e he => by simp at he, by simp⟩, by simp⟩, fun _ _ => rfl, (fun _ _ h => by cases h), (fun _ _ h => by cases h)⟩
theorem dictSet_map {A : Around} {E : Value → Shared → Prop} {s : Shared} {Q : Unit → Shared → Prop} {a : Addr} {o : Obj} {es : Array DictEntry} {i : Int} {t : Tok} {z : Value} (ho : s.heap.get? a = some o) (hM : MapO o es) (hlt : es.size < sizeLine)
    (hQ : ∀ h' o' es', h'.get? a = some o' → Heap.SameBut a s.heap h' → MapO o' es' → es'.size ≤ es.size + 1 → (∀ x, findBy Value.isInt es' x = if x = i then some z else findBy Value.isInt es x) → Q () { s with heap := h', toks := s.toks + 1 }) :
    wpAny (model prog w) A (dictSet a (.int i t) z) Q E s := by
  have hkey : (intKind prog w).is i (.int i t) = true := by simp [intKind, Value.isInt]
  obtain ⟨ep, hd⟩ := hM.dat
  have hk := intKeys_of (prog := prog) (w := w) hM.keys
  unfold dictSet
  try with_reducible refine wpAny_holding ?_
  refine wpAny_bind ((intKind prog w).pyHash hkey ?_)
  unfold dictSetHashed
  try with_reducible refine wpAny_holding ?_
  refine wpAny_bind (wpAny_dictFind_of (s := { s with toks := s.toks + 1 }) hkey ho hd hk ?_)
  cases hi : es.findIdx? fun e => (intKind prog w).is i e.key with
  | some j =>
    refine wpAny_bind (wpAny_rule (wpAny_bind (wpAny_updateDict (s := { s with toks := s.toks + 1 }) ho hd (wpAny_point ?_))))
    refine hQ _ _ (es.modify j fun e => { e with val := z }) (Heap.get?_update_self _ ho (Obj.isFreed_of_dict (Obj.data_mapDict hd _))) (Heap.SameBut.update ..) ⟨hM.ex.mapDict _, ⟨_, Obj.data_mapDict hd _⟩, of_intKeys (hk.modify _ _), by rw [Array.size_modify]; exact hM.sz⟩ (by rw [Array.size_modify]; exact Nat.le_succ _) fun x => ?_
    exact findBy_modify (intKind prog w).is (intKind prog w).inj es i x z j hi
  | none =>
    refine wpAny_bind (wpAny_rule (wpAny_updateDictKeys (hz := hM.sz) (s := { s with toks := s.toks + 1 }) ho hd ?_))
    refine hQ _ _ (es.push _) (Heap.get?_update_self _ ho (Obj.isFreed_of_dict (Obj.data_mapDictKeys hd _))) (Heap.SameBut.update ..) ⟨hM.ex.mapDictKeys _, ⟨_, Obj.data_mapDictKeys hd _⟩, of_intKeys (hk.push hkey _), by rw [Array.size_push]; lia⟩ (by rw [Array.size_push]; lia) fun x => ?_
    exact findBy_push (intKind prog w).is es i x _ _ z (KeyKind.is_eq_decide hkey) hi
theorem setItem_map {A : Around} {E : Value → Shared → Prop} {s : Shared} {Q : Unit → Shared → Prop} {a : Addr} {o : Obj} {es : Array DictEntry} {i : Int} {t : Tok} {z : Value} (ho : s.heap.get? a = some o) (hM : MapO o es) (hlt : es.size < sizeLine)
    (hQ : ∀ h' o' es', h'.get? a = some o' → Heap.SameBut a s.heap h' → MapO o' es' → es'.size ≤ es.size + 1 → (∀ x, findBy Value.isInt es' x = if x = i then some z else findBy Value.isInt es x) → Q () { s with heap := h', toks := s.toks + 1 }) :
    wpAny (model prog w) A (setItem (.ref a) (.int i t) z) Q E s := by
  have hT : s.TypeIs (.ref a) "dict" := ⟨o, ho, hM.ex.1⟩
  unfold setItem
  try with_reducible refine wpAny_holding ?_
  refine wpAny_bind (wpAny_sequenceKey hT (by decide) ?_)
  refine wpAny_bind (wpAny_callSpecial?_slot (name := Str.ofString "__setitem__") hT slot_dict_setitem
    (wpAny_call_entry slot_dict_setitem hT entry_dict_setitem ?_ (args_dict_setitem _ _ _)))
  show wpAny _ _ (Builtin.Dict.notOrdered "__setitem__" ⟨[.ref a, .int i t, z], []⟩ >>= _) _ _ s
  refine wpAny_bind (wpAny_notOrdered_dict hT ?_)
  show wpAny _ _ (dictSet a (.int i t) z >>= _) _ _ s
  exact wpAny_bind (dictSet_map ho hM hlt fun h' o' es' e1 e2 e3 e4 e5 => wpAny_pure ⟨.none, rfl, wpAny_pure (hQ h' o' es' e1 e2 e3 e4 e5)⟩)
theorem SETI_map {g : Int → Option MV} {n : Nat} {i : Int} {Q' : List Res → Prop} (U : UpdR (.imap a g n) (.imap a (fun x => if x = i then some m else g x) (n + 1)) σ σ') (hz : n < sizeLine) (h : Q' σ') : SETI prog w h₀ d σ (.ref a) (.int i) m Q' := by
  intro A s Φ F E Q vs N R kk
  obtain ⟨x, y, z, rfl, r1, r2, r3⟩ := R.three
  (first | obtain ⟨_, rfl⟩ := r1.inv_int | obtain rfl := r1.inv_ref | obtain rfl := r1.inv_none | obtain rfl := r1.inv_bool | cases r1); (first | obtain ⟨_, rfl⟩ := r2.inv_int | obtain rfl := r2.inv_ref | obtain rfl := r2.inv_none | obtain rfl := r2.inv_bool | cases r2)
  obtain ⟨o, es, gv, ho, ⟨hns, hM, hsz⟩, h1, h2, h3⟩ := N.rel.res _ (List.mem_append_left _ U.mem)
  refine setItem_map ho hM (by lia) fun h' o' es' ho' hsb hM' hsz' hf => ?_
  refine kk () () σ' Φ h' _ (.refl Φ) ?_ trivial h
  refine N.rel.upd U (fun b o hb e => hsb.extBut b o (fun q => hb (by subst q; exact .head _)) e) rfl (fun b hb => by simp [Res.addrs] at hb; subst hb; exact ⟨_, ho'⟩) ?_
  refine ⟨o', es', fun x => if x = i then z else gv x, ho', ⟨hns, hM', by lia⟩, fun k hk => ?_, fun k mm hk => ?_, fun k mm hk => ?_⟩
  · rw [hf]
    dsimp only at hk ⊢
    split at hk
    · cases hk
    · rename_i hne; rw [if_neg hne]; exact h1 k hk
  · rw [hf]
    dsimp only at hk ⊢
    split at hk
    · rename_i he; subst he; simp
    · rename_i hne; rw [if_neg hne, if_neg hne]; exact h2 k mm hk
  · dsimp only at hk ⊢
    split at hk
    · rename_i he; cases hk; rw [if_pos he]; exact r3
    · rename_i hne; rw [if_neg hne]; exact h3 k mm hk
theorem HM_get {g : Int → Option MV} (I : IsM h₀ σ v g) : HasMeth prog w h₀ σ v (Str.ofString "get") (.builtin "dict.get") := by
  intro A s Φ F E Q u pl _ rel r q
  obtain ⟨a, fv, rfl, hns, hm, h1, h2⟩ := I.real (prog := prog) (w := w) rel r
  exact getMethod_builtin hm.typeIs PySem.F.plainAttrs_dict PySem.F.slot_dict_get PySem.F.type_dict_get hm.noDict q
theorem CALL_get {g : Int → Option MV} {i : Int} {dv : MV} (I : IsM h₀ σ v g) (h : P ((g i).getD dv) σ) : CALL prog w h₀ d σ (.ext (.builtin "dict.get")) [v, .int i, dv] P := by
  intro A s Φ F E Q vs N R kk
  cases R with | cons r0 R => ?_
  obtain ⟨x, y, z, rfl, r1, r2, r3⟩ := R.three
  cases r0.ext_inv
  (first | obtain ⟨_, rfl⟩ := r2.inv_int | obtain rfl := r2.inv_ref | obtain rfl := r2.inv_none | obtain rfl := r2.inv_bool | cases r2)
  obtain ⟨a, fv, rfl, hns, hm, h1, h2⟩ := I.real (prog := prog) (w := w) N.rel r1
  show wpAny _ A (call (.builtin "dict.get") [.ref a, .int i _, z]) Q E s
  refine wpAny_call_entry PySem.F.slot_dict_get hm.typeIs PySem.F.entry_dict_get ?_ (PySem.F.args_dict_get_3 _ _ _)
  show wpAny _ _ (dictGet a (.int i _) >>= _) _ _ s
  refine wpAny_bind (wpAny_dictGet_of (knd := intKind prog w) (k := i) (by simp [intKind, Value.isInt]) hm ?_)
  cases hg : g i with
  | none =>
    rw [h1 i hg]; rw [hg] at h
    show wpAny _ _ (Builtin.Dict.missed a (.int i _) >>= _) _ _ _
    exact wpAny_bind (wpAny_missed_other hns (wpAny_pure ⟨z, rfl, kk z dv σ Φ s.heap _ (.refl Φ) N.rel r3 h⟩))
  | some m =>
    obtain ⟨x, hx, rx⟩ := h2 i m hg
    rw [hx]; rw [hg] at h
    exact wpAny_pure ⟨x, rfl, kk x m σ Φ s.heap _ (.refl Φ) N.rel rx h⟩
end
end Mine
open PySem PySem.W PySem.Calls PyProof.Rows
set_option Elab.async false
set_option maxRecDepth 100000
set_option linter.unusedVariables false
namespace Mine
/-! ## clean contexts: no decoder's code on the stack -/
noncomputable def notDec : Code → Bool
  | .builtin id _ => !Builtin.Bytes.decodersThatHold.contains id
  | _ => true
def CleanB (Γ : Ctx) : Prop := ∀ x ∈ Γ.below, notDec x.1 = true
def wpC {α : Type} (M : Model) (A : Around) (t : Sem α) (Q : α → Shared → Prop) (s : Shared) : Prop :=
  ∀ Γ p, Γ.In A → notDec Γ.code = true → CleanB Γ → Sem.wp M Γ t (fun a _ s' => Q a s') (fun _ _ _ => False) p s
abbrev okR (Q : Flow → Shared → Prop) : Result → Shared → Prop := fun r s' => match r with | .ok f => Q f s' | .error _ => False
def codeC (M : Model) (A : Around) (c : Code) (Q : Flow → Shared → Prop) (s : Shared) : Prop :=
  ∀ Γ p, Γ.code = c → Γ.Below A → CleanB Γ → wpCode M Γ (okR Q) p s
section
variable {α β : Type} {M : Model} {A : Around} {s : Shared}
theorem wpC_of {t : Sem α} {Q : α → Shared → Prop} (h : wpAny M A t Q (fun _ _ => False) s) : wpC M A t Q s := fun Γ p hΓ _ _ => h Γ p hΓ
theorem wpC_mono {t : Sem α} {Q Q' : α → Shared → Prop} (h : wpC M A t Q s) (k : ∀ a s, Q a s → Q' a s) : wpC M A t Q' s :=
  fun Γ p hΓ hn hc => Sem.wp_mono M Γ t (fun a _ s => k a s) (fun _ _ _ x => x) p s (h Γ p hΓ hn hc)
theorem wpC_pure {a : α} {Q : α → Shared → Prop} (h : Q a s) : wpC M A (pure a) Q s := fun _ _ _ _ _ => h
theorem wpC_bind {m : Sem α} {f : α → Sem β} {Q : β → Shared → Prop} (h : wpC M A m (fun a s' => wpC M A (f a) Q s') s) : wpC M A (m >>= f) Q s := fun Γ p hΓ hn hc => by
  rw [Sem.wp_bind']
  exact Sem.wp_mono M Γ m (fun a p' s' h' => h' Γ p' hΓ hn hc) (fun _ _ _ h' => h') p s (h Γ p hΓ hn hc)
theorem wpC_holding {vs : List Value} {m : Sem α} {Q : α → Shared → Prop} (h : wpC M A m Q s) : wpC M A (holding vs m) Q s :=
  fun Γ p hΓ hn hc => by rw [Sem.wp_holding]; exact h Γ p hΓ hn hc
theorem wpC_keep {vs : List Value} {m : Sem α} {Q : α → Shared → Prop} (h : wpC M A m Q s) : wpC M A (m.keep vs) Q s :=
  fun Γ p hΓ hn hc => by rw [Sem.wp_keep]; exact h Γ p hΓ hn hc
theorem wpC_onRaise {m : Sem α} {k : Value → Sem Unit} {Q : α → Shared → Prop} (h : wpC M A m Q s) : wpC M A (m.onRaise k) Q s := fun Γ p hΓ hn hc => by
  rw [Sem.wp_onRaise]
  exact Sem.wp_mono M Γ m (fun _ _ _ h' => h') (fun e p' s' h' => h'.elim) p s (h Γ p hΓ hn hc)
theorem clean_enter {Γ : Ctx} {c : Code} {h : Option Value} {p : Pos} (hn : notDec Γ.code = true) (hc : CleanB Γ) : CleanB (Γ.enter c h p) := by
  intro x hx
  have hx' : x ∈ (Γ.code, p) :: Γ.below := hx
  rcases List.mem_cons.mp hx' with rfl | hx'
  · exact hn
  · exact hc x hx'
theorem wpC_run {c : Code} {h : Option Value} {Q : Flow → Shared → Prop} (k : codeC M (A.mark h) c Q s) (hnb : h ≠ some byPass := by intro x; cases x) : wpC M A (run c h) Q s :=
  fun Γ p hΓ hn hc => by
    rw [Sem.wp_run]
    refine wpCode_mono (fun r s' hr => ?_) (k _ p rfl (hΓ.enter c h p hnb) (clean_enter hn hc))
    cases r with
    | ok f => exact hr
    | error e => exact hr
theorem wpC_runOwn {c : Code} {env : Env} {Q : Flow → Shared → Prop} (k : codeC M (A.mark none) c Q s) : wpC M A (runOwn c env none) Q s := by
  unfold runOwn
  exact wpC_onRaise (wpC_run k)
theorem wpC_call {f : Value} {pos : List Value} {kw : List (Str × Value)} {Q : Value → Shared → Prop} (k : codeC M A (.call f ⟨pos, kw⟩) (fun fl s' => match fl with | .ret v => Q v s' | _ => False) s) : wpC M A (call f pos kw) Q s :=
  fun Γ p hΓ hn hc => by
    show Sem.wp M Γ (runValue _) _ _ p s
    rw [Sem.wp_runValue]
    refine wpCode_mono (fun r s' hr => ?_) (k _ p rfl (hΓ.enter _ none p (by intro x; cases x)) (clean_enter hn hc))
    cases r with
    | ok f => cases f <;> exact hr
    | error e => exact hr
theorem codeC_of {c : Code} {Q : Flow → Shared → Prop} (h : codeAny M A c (okR Q) s) : codeC M A c Q s := fun Γ p hc hΓ _ => h Γ p hc hΓ
theorem codeC_tree {c : Code} {Q : Flow → Shared → Prop} (h : wpC M (A.under c) (M.den c) (fun fin s' => match fin with | .done f => Q f s' | .again c' => c'.quiet = true ∧ codeC M A c' Q s') s)
    (hn : notDec c = true := by rfl) : codeC M A c Q s := fun Γ p hc hΓ hcl => by
  rw [wpCode_iff_wp, hc]
  refine Sem.wp_mono M Γ _ (fun fin p' s' h' => ?_) (fun _ _ _ h' => h') p s (h Γ p (hc ▸ hΓ.in) (by rw [hc]; exact hn) hcl)
  cases fin with
  | done f => exact h'
  | again c' => exact ⟨h'.1, h'.2 (Γ.goto c') p' rfl (hΓ.goto c') hcl⟩
theorem codeC_loop {c : Code} {Q : Flow → Shared → Prop} (hq : c.quiet = true) (hn : notDec c = true) (I : Nat → Shared → Prop)
    (turn : ∀ n s, I n s → wpC M (A.under c) (M.den c) (fun fin s' => match fin with | .done f => Q f s' | .again c' => (c' = c ∧ ∃ m, m < n ∧ I m s') ∨ (c'.quiet = true ∧ codeC M A c' Q s')) s)
    (n : Nat) (h : I n s) : codeC M A c Q s := by
  induction n using Nat.strongRecOn generalizing s with
  | ind n ih =>
    refine codeC_tree (wpC_mono (turn n s h) fun fin s' hf => ?_) hn
    cases fin with
    | done f => exact hf
    | again c' =>
      rcases hf with ⟨rfl, m, hm, hI⟩ | hf
      · exact ⟨hq, ih m hm hI⟩
      · exact hf
end
section
variable {prog : Program} {w : World} {A : Around} {s : Shared}
theorem codeC_forLoop {Q : Flow → Shared → Prop} {target : Expr} {it : Value} {body : List Stmt} {env : Env} (I : Nat → Shared → Prop)
    (turn : ∀ n s, I n s → wpC (model prog w) A (pyNext it) (fun r s₁ => match r with
      | none => Q .next s₁
      | some v => wpC (model prog w) A (assign target env v) (fun _ s₂ => wpC (model prog w) A (execs body env) (fun f s₃ => match f with
          | .next | .cont => ∃ m, m < n ∧ I m s₃
          | .brk => Q .next s₃
          | .ret v => Q (.ret v) s₃) s₂) s₁) s)
    (n : Nat) (h : I n s) (ht : ∀ v, letOwnedTupleGo target it v = pure () := by intro _; rfl) : codeC (model prog w) A (.forLoop target it body [] env) Q s := by
  refine codeC_loop rfl rfl I (fun n s hI => ?_) n h
  show wpC _ _ ((forTurn target it body [] env).onRaise (fun x => do noteFrame x env; theTreesLotGoes x)) _ s
  refine wpC_onRaise ?_
  simp only [forTurn]
  refine wpC_bind (wpC_of (wpAny_standAt ?_))
  refine wpC_bind (wpC_onRaise (wpC_mono (turn n s hI) fun r s₁ h₁ => ?_))
  cases r with
  | none =>
    refine wpC_pure (.inr ⟨rfl, codeC_of (codeAny_block (wpAny_execs_nil h₁))⟩)
  | some v =>
    refine wpC_bind (wpC_of (wpAny_of_eq (ht v) ?_))
    refine wpC_bind (wpC_mono h₁ fun _ s₂ h₂ => wpC_bind (wpC_mono h₂ fun f s₃ h₃ => ?_))
    cases f with
    | next => exact wpC_pure (.inl ⟨rfl, h₃⟩)
    | cont => exact wpC_pure (.inl ⟨rfl, h₃⟩)
    | brk => exact wpC_pure h₃
    | ret v => exact wpC_pure h₃
theorem callWithC {f : Value} {first : List Value} {pos : Pos} {Q : Value → Shared → Prop} {P : Heap → Prop} {args : List (Bool × Sem Value)} (hplain : (args.any (·.1) || false) = false)
    (hk : ∀ h, P h → ∃ k, (k = Keeper.frame ∨ k = Keeper.machine ∨ k = Keeper.boundFrame) ∧ Looks (model prog w) h (keeperOf f) k)
    (h : wpC (model prog w) A (evalArgs f true args []) (fun a s₁ => P s₁.heap ∧ wpC (model prog w) A (call f (first ++ a.pos) a.kw) Q s₁) s) : wpC (model prog w) A (callWith pos f first args []) Q s := by
  unfold callWith
  refine wpC_bind (wpC_holding (wpC_mono h fun a s₁ h₁ => wpC_bind (wpC_of (wpAny_standAt ?_))))
  obtain ⟨k, hk', L⟩ := hk _ h₁.1
  have hpl : (args.any (·.1) || ([] : List (Option Str × Sem Value)).any (·.1.isNone)) = false := hplain
  simp only [hpl]
  refine wpC_bind (wpC_of (L.here ?_))
  have tail : ∀ {t : Sem Value}, wpC (model prog w) A t Q s₁ → wpC (model prog w) A (t >>= fun r => holding [r] point >>= fun _ => pure r) Q s₁ :=
    fun ht => wpC_bind (wpC_mono ht fun r s₂ hr => wpC_bind (wpC_of (wpAny_holding (wpAny_point (wpC_pure hr)))))
  have marked (mk : Value) : wpC (model prog w) A (callMarked mk f (first ++ a.pos) a.kw) Q s₁ := by unfold callMarked; exact wpC_keep h₁.2
  rcases hk' with rfl | rfl | rfl <;> dsimp only <;> first | exact tail h₁.2 | (split <;> first | exact tail h₁.2 | exact tail (marked _))
theorem codeC_call_cells {Q : Flow → Shared → Prop} {a : Addr} {o : Obj} {fd : FuncData} {body : List Stmt} {vals : List Value} {binds : List (Str × Value)}
    (hroom : A.depth < recursionLimit) (ho : s.heap.get? a = some o) (hdata : o.data = .func fd) (hlim : s.heap.NoLimit) (hcd : s.heap.CodeRec fd.code fd.qualname)
    (hbody : fd.body = .stmts body) (hbind : bindArgs fd ⟨vals, []⟩ = pure binds) (hclo : fd.closure = [])
    (hkind : ∀ x ∈ binds, fd.scope.names.lookup x.1 = some .local ∨ (fd.scope.names.lookup x.1 = some .cell ∧ ((cellsFrom (s.heap.objs.size + 1) fd.scope.names []).lookup x.1).isSome = true))
    (h : ∀ s₁, InCallC s (callEnvC fd s.heap.objs.size a).locals (bindL (callEnvC fd s.heap.objs.size a).kindOf binds fun _ => none) (callEnvC fd s.heap.objs.size a).cells
        (bindC (callEnvC fd s.heap.objs.size a).kindOf binds fun _ => none) s₁ →
      wpC (model prog w) (A.deeper (callEnvC fd s.heap.objs.size a)) (execs body (callEnvC fd s.heap.objs.size a)) (fun f s' => Q (.ret (match f with | .ret v => v | _ => .none)) s') s₁)
    (hco : fd.scope.isCoroutine = false := by rfl) (hgen : fd.scope.isGenerator = false := by rfl) (hk : fd.scope.kind = .function := by rfl) :
    codeC (model prog w) A (.call (.ref a) ⟨vals, []⟩) Q s := by
  refine codeC_tree ?_
  show wpC _ A.in1 (callAny (.ref a) ⟨vals, []⟩) _ s
  simp only [callAny]
  refine wpC_bind (wpC_of (wpAny_load ho ?_))
  obtain ⟨c, oc, vs, tq, hc, hoc, hdc, hq⟩ := hcd
  simp only [hdata, callFunction, hco, hgen, hbody, hc]
  refine wpC_bind (m := field (.ref c) 1) (wpC_of (wpAny_field hoc hdc hq (wpC_bind (wpC_pure ?_))))
  rw [hbind]
  refine wpC_bind (wpC_pure (wpC_bind (wpC_of ?_)))
  rw [hclo, ← hc]
  refine wpAny_newFunctionEnv_cells hk hkind fun env he s' x => ?_
  subst he
  refine wpC_bind (wpC_of (wpAny_enterFrame (hlim.keeps x.toInCall.keep) hroom (wpC_pure ⟨rfl, ?_⟩)))
  refine codeC_tree ?_
  show wpC _ (A.deeper (callEnvC fd s.heap.objs.size a)) (do point; match ← (execs body (callEnvC fd s.heap.objs.size a)).onRaise (leaving (callEnvC fd s.heap.objs.size a)) with | .ret v => ret v | _ => ret .none) _ _
  refine wpC_bind (wpC_of (wpAny_point (wpC_bind (wpC_onRaise (wpC_mono (h s' x) fun f s'' h' => ?_)))))
  cases f <;> exact wpC_pure h'
end
end Mine
open PySem PySem.W PySem.Calls PyProof.Rows
set_option Elab.async false
set_option maxRecDepth 100000
set_option linter.unusedVariables false
namespace Mine
section
variable (prog : Program) (w : World) (h₀ : Heap)
def JC {α β : Type} (d : Nat) (R : FMap → β → α → Prop) (pre : List Res) (ms : List MV) (t : List Value → Sem α) (post : β → List Res → Prop) : Prop :=
  ∀ (A : Around) (s : Shared) (Φ : FMap) (F : List Res) (Q : α → Shared → Prop) (vs : List Value), Now h₀ d A Φ (pre ++ F) s.heap → Reps Φ ms vs →
    (∀ a b σ' Φ' h' tk, FLe Φ Φ' → Rel Φ' (σ' ++ F) h' → R Φ' b a → post b σ' → Q a { s with heap := h', toks := tk }) → wpC (model prog w) A (t vs) Q s
def EVc (d : Nat) (f : FrS) (σ : List Res) (e : Expr) (P : MV → List Res → Prop) : Prop :=
  JC prog w h₀ d Rep (.fr f :: σ) [] (fun _ => eval e f.env) (fun m σ' => ∃ τ, σ' = .fr f :: τ ∧ P m τ)
def TEc (d : Nat) (f : FrS) (σ : List Res) (e : Expr) (P : Bool → List Res → Prop) : Prop :=
  JC prog w h₀ d (fun _ b a => a = b) (.fr f :: σ) [] (fun _ => isTrue e f.env (eval e f.env)) (fun m σ' => ∃ τ, σ' = .fr f :: τ ∧ P m τ)
def CALLc (d : Nat) (σ : List Res) (fn : MV) (args : List MV) (P : MV → List Res → Prop) : Prop :=
  JC prog w h₀ d Rep σ (fn :: args) (fun vs => call (vs.headD .none) vs.tail) P
def XVc (d : Nat) (env : Env) (γ : List (Str × MV)) (ρ : Loc) (σ : List Res) (ss : List Stmt) (P : FL → Loc → List Res → Prop) : Prop :=
  JC prog w h₀ d RepF (fr1 env γ ρ :: σ) [] (fun _ => execs ss env) (fun m σ' => ∃ ρ' τ, σ' = fr1 env γ ρ' :: τ ∧ P m ρ' τ)
def X1c (d : Nat) (env : Env) (γ : List (Str × MV)) (ρ : Loc) (σ : List Res) (st : Stmt) (P : FL → Loc → List Res → Prop) : Prop :=
  JC prog w h₀ d RepF (fr1 env γ ρ :: σ) [] (fun _ => exec st env) (fun m σ' => ∃ ρ' τ, σ' = fr1 env γ ρ' :: τ ∧ P m ρ' τ)
end
section
variable {prog : Program} {w : World} {h₀ : Heap} {d : Nat} {f : FrS} {env : Env} {γ : List (Str × MV)} {ρ ρ' : Loc} {σ σ' : List Res} {pos npos apos : Pos}
theorem JJ.c {α β : Type} {R : FMap → β → α → Prop} {pre : List Res} {ms : List MV} {t : List Value → Sem α} {post : β → List Res → Prop} (h : JJ prog w h₀ d R pre ms t post) : JC prog w h₀ d R pre ms t post :=
  fun A s Φ F Q vs N R' kk => wpC_of (h A s Φ F _ Q vs N R' kk)
theorem JC.perm {α β : Type} {R : FMap → β → α → Prop} {pre pre' : List Res} {ms : List MV} {t : List Value → Sem α} {p : β → List Res → Prop} (h : JC prog w h₀ d R pre ms t p) (k : pre'.Perm pre) : JC prog w h₀ d R pre' ms t p :=
  fun A s Φ F Q vs N R' kk => h A s Φ F Q vs (N.perm (k.append_right F)) R' kk
theorem TEc_of {e : Expr} {P : Bool → List Res → Prop} (h : TE prog w h₀ d f σ e P) : TEc prog w h₀ d f σ e P := JJ.c h
theorem X1c_of {st : Stmt} {P : FL → Loc → List Res → Prop} (h : X1 prog w h₀ d env γ ρ σ st P) : X1c prog w h₀ d env γ ρ σ st P := JJ.c h
theorem XVc_of {ss : List Stmt} {P : FL → Loc → List Res → Prop} (h : XV prog w h₀ d env γ ρ σ ss P) : XVc prog w h₀ d env γ ρ σ ss P := JJ.c h
variable {P : FL → Loc → List Res → Prop}
def Cnc (prog : Program) (w : World) (h₀ : Heap) (d : Nat) (env : Env) (γ : List (Str × MV)) (rest : List Stmt) (P : FL → Loc → List Res → Prop) : FL → Loc → List Res → Prop
  | .next, ρ, σ => XVc prog w h₀ d env γ ρ σ rest P
  | fl, ρ, σ => P fl ρ σ
theorem XVc_nil (h : P .next ρ σ) : XVc prog w h₀ d env γ ρ σ [] P := XVc_of (XV_nil h)
theorem XVc_cons {st : Stmt} {rest : List Stmt} (h : X1c prog w h₀ d env γ ρ σ st (Cnc prog w h₀ d env γ rest P)) : XVc prog w h₀ d env γ ρ σ (st :: rest) P := by
  intro A s Φ F Q vs N R kk
  show wpC _ A (execs (st :: rest) env) Q s
  rw [execs_cons]
  refine wpC_bind (h A s Φ F _ [] N .nil ?_)
  rintro fl a σ' Φ1 h1 tk1 le1 rel1 rep1 ⟨ρ1, τ, rfl, h⟩
  cases rep1 with
  | next => exact h A _ Φ1 F _ [] (N.next le1 rel1) .nil fun x m σ3 Φ3 h3 tk3 le3 rel3 rep3 hp => kk x m σ3 Φ3 h3 tk3 (le1.trans le3) rel3 rep3 hp
  | brk => exact wpC_pure (kk _ _ _ Φ1 h1 tk1 le1 rel1 .brk ⟨ρ1, τ, rfl, h⟩)
  | cont => exact wpC_pure (kk _ _ _ Φ1 h1 tk1 le1 rel1 .cont ⟨ρ1, τ, rfl, h⟩)
  | ret r => exact wpC_pure (kk _ _ _ Φ1 h1 tk1 le1 rel1 (.ret r) ⟨ρ1, τ, rfl, h⟩)
theorem X1c_if {t : Expr} {b o : List Stmt} (h : TEc prog w h₀ d (fs env γ ρ) σ t (fun x σ1 => (x = true → XVc prog w h₀ d env γ ρ σ1 b P) ∧ (x = false → XVc prog w h₀ d env γ ρ σ1 o P))) : X1c prog w h₀ d env γ ρ σ (.If t b o pos) P := by
  intro A s Φ F Q vs N R kk
  show wpC _ A (exec (.If t b o pos) env) Q s
  rw [exec_If]
  refine wpC_bind (wpC_of (wpAny_standAt (wpC_bind (h A s Φ F _ [] N .nil ?_))))
  rintro v a σ' Φ1 h1 tk1 le1 rel1 rfl ⟨τ, rfl, h⟩
  cases v with
  | true => exact h.1 rfl A _ Φ1 F _ [] (N.next le1 rel1) .nil fun x m σ3 Φ3 h3 tk3 le3 rel3 rep3 hp => kk x m σ3 Φ3 h3 tk3 (le1.trans le3) rel3 rep3 hp
  | false => exact h.2 rfl A _ Φ1 F _ [] (N.next le1 rel1) .nil fun x m σ3 Φ3 h3 tk3 le3 rel3 rep3 hp => kk x m σ3 Φ3 h3 tk3 (le1.trans le3) rel3 rep3 hp
theorem X1c_assign {t e : Expr} (h : EVc prog w h₀ d (fs env γ ρ) σ e (fun v σ1 => AS prog w h₀ d env γ ρ σ1 t v (fun ρ' σ2 => P .next ρ' σ2)))
    (hs : swapsWithSole [t] e pos.line env = pure false := by rfl) (hw : swappedStores [t] e env = pure none := by rfl) (he : (assignEach [t] env).map (·.2) = [assign t env] := by rfl) : X1c prog w h₀ d env γ ρ σ (.Assign [t] e pos) P := by
  intro A s Φ F Q vs N R kk
  show wpC _ A (exec (.Assign [t] e pos) env) Q s
  rw [exec_Assign_arm]
  refine wpC_bind (wpC_of (wpAny_standAt ?_))
  rw [hs]
  refine wpC_bind (wpC_pure ?_)
  rw [if_neg (by decide)]
  refine wpC_bind (h A s Φ F _ [] N .nil ?_)
  rintro v a σ' Φ1 h1 tk1 le1 rel1 rep1 ⟨τ, rfl, h⟩
  rw [hw]
  refine wpC_bind (wpC_pure ?_)
  show wpC _ A (do assignAll v ((assignEach [t] env).map (·.2)); pure .next) Q _
  rw [he]
  refine wpC_bind (wpC_of (h A _ Φ1 F _ _ [v] (N.next le1 rel1) (.cons rep1 .nil) ?_))
  rintro x m σ3 Φ3 h3 tk3 le3 rel3 rep3 ⟨ρ3, τ3, rfl, hp⟩
  exact wpC_pure (kk .next .next _ Φ3 h3 tk3 (le1.trans le3) rel3 .next ⟨ρ3, τ3, rfl, hp⟩)
theorem X1c_expr {e : Expr} (h : EVc prog w h₀ d (fs env γ ρ) σ e (fun v σ1 => v = .none ∧ P .next ρ σ1))
    (hi : interactive env = false := by rfl) (hs : swapsWith e none pos.line env = pure false := by rfl) : X1c prog w h₀ d env γ ρ σ (.Expr e pos) P := by
  intro A s Φ F Q vs N R kk
  show wpC _ A (exec (.Expr e pos) env) Q s
  rw [exec_Expr env e pos hi hs]
  refine wpC_bind (wpC_of (wpAny_standAt (wpC_bind (h A s Φ F _ [] N .nil ?_))))
  rintro v a σ' Φ1 h1 tk1 le1 rel1 rep1 ⟨τ, rfl, rfl, h⟩
  (first | obtain ⟨_, rfl⟩ := rep1.inv_int | obtain rfl := rep1.inv_ref | obtain rfl := rep1.inv_none | obtain rfl := rep1.inv_bool | cases rep1)
  rw [dropValue_plain (by intro a e; cases e)]
  exact wpC_pure (kk _ _ _ Φ1 h1 tk1 le1 rel1 .next ⟨ρ, τ, rfl, h⟩)
theorem TEc_compare {l r : Expr} {op : CmpOp} {P : Bool → List Res → Prop} (h : EVc prog w h₀ d f σ l (fun a σ1 => EV prog w h₀ d f σ1 r (fun b σ2 => CMP prog w h₀ d σ2 op a b P)))
    (hm : behindInMarks op r = false := by with_unfolding_all rfl) : TEc prog w h₀ d f σ (.Compare l [op] [r] pos) P := by
  intro A s Φ F Q vs N R kk
  show wpC _ A (isTrue (.Compare l [op] [r] pos) f.env (eval (.Compare l [op] [r] pos) f.env)) Q s
  rw [isTrue_Compare1, markedBehindIn_of_false hm]
  refine wpC_bind (h A s Φ F _ [] N .nil ?_)
  rintro v a σ' Φ1 h1 tk1 le1 rel1 rep1 ⟨τ, rfl, h⟩
  refine wpC_bind (wpC_holding (wpC_of (h A _ Φ1 F _ _ [] (N.next le1 rel1) .nil ?_)))
  rintro u b σ' Φ2 h2 tk2 le2 rel2 rep2 ⟨τ2, rfl, h⟩
  refine wpC_bind (wpC_of (wpAny_standAt (wpC_bind (wpC_of (wpAny_operating ?_)))))
  refine h A _ Φ2 (.fr f :: F) _ _ [v, u] (N.next (le1.trans le2) (rel2.perm permF)) (.cons (rep1.mono le2) (.cons rep2 .nil)) ?_
  intro x m σ3 Φ3 h3 tk3 le3 rel3 rep3 hp
  subst rep3
  exact wpC_of (wpAny_truthy_bool (kk _ m _ Φ3 h3 tk3 (le1.trans (le2.trans le3)) (rel3.perm permF.symm) rfl ⟨σ3, rfl, hp⟩))
/-- x or y as a test -/
theorem TEc_or {x y : Expr} {P : Bool → List Res → Prop} (h : TEc prog w h₀ d f σ x (fun b σ1 => (b = false → TE prog w h₀ d f σ1 y P) ∧ (b = true → P true σ1))) : TEc prog w h₀ d f σ (.BoolOp .Or [x, y] pos) P := by
  intro A s Φ F Q vs N R kk
  show wpC _ A (isTrue (.BoolOp .Or [x, y] pos) f.env (eval (.BoolOp .Or [x, y] pos) f.env)) Q s
  rw [arm_isTrue_BoolOp]
  show wpC _ A (do match PySem.BoolOp.Or, ← isTrue x f.env (eval x f.env) with | .And, false => pure false | .Or, true => pure true | _, _ => allTrue .Or [y] f.env) Q s
  refine wpC_bind (h A s Φ F _ [] N .nil ?_)
  rintro v a σ' Φ1 h1 tk1 le1 rel1 rfl ⟨τ, rfl, h⟩
  cases v with
  | true => exact wpC_pure (kk _ _ _ Φ1 h1 tk1 le1 rel1 rfl ⟨τ, rfl, h.2 rfl⟩)
  | false =>
    refine wpC_of (wpAny_allTrue_Or_cons (h.1 rfl A _ Φ1 F _ _ [] (N.next le1 rel1) .nil ?_))
    rintro b bb σ3 Φ3 h3 tk3 le3 rel3 rfl ⟨τ3, rfl, hp⟩
    cases b with
    | true => exact kk _ _ _ Φ3 h3 tk3 (le1.trans le3) rel3 rfl ⟨τ3, rfl, hp⟩
    | false => exact wpAny_allTrue_Or_nil (kk _ _ _ Φ3 h3 tk3 (le1.trans le3) rel3 rfl ⟨τ3, rfl, hp⟩)
theorem EVc_call0 {P : MV → List Res → Prop} {func : Expr} {u : Value} (hk : Kp h₀ u) (h : EV prog w h₀ d f σ func (fun v σ1 => v = .ext u ∧ CALLc prog w h₀ d σ1 (.ext u) [] P))
    (he : ∀ env, eval (.Call func [] [] pos) env = (do callWith pos (← eval func env) [] (backTo pos (starEach [] env)) (backToKw pos (keywordEach [] env))) := by intro _; rfl) : EVc prog w h₀ d f σ (.Call func [] [] pos) P := by
  intro A s Φ F Q vs N R kk
  show wpC _ A (eval (.Call func [] [] pos) f.env) Q s
  rw [he]
  refine wpC_bind (wpC_of (h A s Φ F _ _ [] N .nil ?_))
  rintro v a σ' Φ1 h1 tk1 le1 rel1 rep1 ⟨τ, rfl, rfl, h⟩
  cases rep1.ext_inv
  have N1 := N.next le1 rel1
  refine callWithC (P := fun h => ∀ a o, h₀.get? a = some o → h.get? a = some o) rfl (fun h hh => hk _ h hh) (wpC_of (PyProof.Rows.evalArgs_none ?_))
  refine ⟨N1.heap, ?_⟩
  refine h A _ Φ1 (.fr f :: F) _ [u] (N1.perm permF) (.cons rep1 .nil) ?_
  intro x m σ3 Φ3 h3 tk3 le3 rel3 rep3 hp
  exact kk x m _ Φ3 h3 tk3 (le1.trans le3) (rel3.perm permF.symm) rep3 ⟨σ3, rfl, hp⟩
theorem EVc_call {P : MV → List Res → Prop} {func e : Expr} {es : List Expr} {u : Value} (hk : Kp h₀ u) (h : EV prog w h₀ d f σ func (fun v σ1 => v = .ext u ∧ EVs prog w h₀ d f σ1 pos (e :: es) (fun ms σ2 => CALLc prog w h₀ d σ2 (.ext u) ms P)))
    (he : ∀ env, eval (.Call func (e :: es) [] pos) env = (do callWith pos (← eval func env) [] (backTo pos (starEach (e :: es) env)) (backToKw pos (keywordEach [] env))) := by intro _; rfl)
    (he2 : ∀ env, starEach (e :: es) env = (false, eval e env) :: starEach es env := by intro _; rfl) (hplain : ∀ env, (backTo pos (starEach es env)).any (·.1) = false := by intro _; rfl) : EVc prog w h₀ d f σ (.Call func (e :: es) [] pos) P := by
  intro A s Φ F Q vs N R kk
  show wpC _ A (eval (.Call func (e :: es) [] pos) f.env) Q s
  rw [he]
  refine wpC_bind (wpC_of (h A s Φ F _ _ [] N .nil ?_))
  rintro v a σ' Φ1 h1 tk1 le1 rel1 rep1 ⟨τ, rfl, rfl, h⟩
  cases rep1.ext_inv
  have N1 := N.next le1 rel1
  have h2 := h A { s with heap := h1, toks := tk1 } Φ1 F (fun _ _ => False) (fun ms s₁ => (∀ a o, h₀.get? a = some o → s₁.heap.get? a = some o) ∧ wpC (model prog w) A (call u ([] ++ ms)) Q s₁) [] N1 .nil (by
    rintro ms m σ3 Φ3 h3 tk3 le3 rel3 rep3 ⟨τ3, rfl, h⟩
    have N3 := N1.next le3 rel3
    refine ⟨N3.heap, ?_⟩
    refine h A _ Φ3 (.fr f :: F) _ (u :: ms) (N3.perm permF) (.cons (rep1.mono le3) rep3) ?_
    intro x m σ4 Φ4 h4 tk4 le4 rel4 rep4 hp
    exact kk x m _ Φ4 h4 tk4 (le1.trans (le3.trans le4)) (rel4.perm permF.symm) rep4 ⟨σ4, rfl, hp⟩)
  show wpC _ A (callWith pos u [] (backTo pos (starEach (e :: es) f.env)) []) Q _
  rw [he2] at h2 ⊢
  exact callWithC (P := fun h => ∀ a o, h₀.get? a = some o → h.get? a = some o) (by show ((false || (backTo pos (starEach es f.env)).any (·.1)) || false) = false; rw [hplain]; rfl) (fun h hh => hk _ h hh) (wpC_of (evalArgs_plain h2))
theorem EVc_meth {P : MV → List Res → Prop} {o e : Expr} {es : List Expr} {name : Str} {u : Value} (hk : Kp h₀ u) (h : EV prog w h₀ d f σ o (fun ov σ1 => HasMeth prog w h₀ σ1 ov name u ∧ EVs prog w h₀ d f σ1 pos (e :: es) (fun ms σ2 => CALLc prog w h₀ d σ2 (.ext u) (ov :: ms) P)))
    (he : ∀ env, ∃ pl, eval (.Call (.Attribute o name apos) (e :: es) [] pos) env = (do
      let ov ← eval o env
      standAt apos.atName
      let (f, first) ← holding [ov] (getMethod ov name pl)
      callWith pos f first (backTo pos (starEach (e :: es) env)) (backToKw pos (keywordEach [] env))) := by intro _; exact ⟨_, rfl⟩)
    (he2 : ∀ env, starEach (e :: es) env = (false, eval e env) :: starEach es env := by intro _; rfl) (hplain : ∀ env, (backTo pos (starEach es env)).any (·.1) = false := by intro _; rfl) : EVc prog w h₀ d f σ (.Call (.Attribute o name apos) (e :: es) [] pos) P := by
  intro A s Φ F Q vs N R kk
  obtain ⟨pl, he⟩ := he f.env
  show wpC _ A (eval (.Call (.Attribute o name apos) (e :: es) [] pos) f.env) Q s
  rw [he]
  refine wpC_bind (wpC_of (h A s Φ F _ _ [] N .nil ?_))
  rintro v a σ' Φ1 h1 tk1 le1 rel1 rep1 ⟨τ, rfl, hm, h⟩
  have N1 := N.next le1 rel1
  refine wpC_bind (wpC_of (wpAny_standAt (wpC_bind (wpC_of (wpAny_holding (hm A _ Φ1 (.fr f :: F) _ _ v pl N1.base (rel1.perm permF) rep1 ?_))))))
  have h2 := h A { s with heap := h1, toks := tk1 } Φ1 F (fun _ _ => False) (fun ms s₁ => (∀ a o, h₀.get? a = some o → s₁.heap.get? a = some o) ∧ wpC (model prog w) A (call u ([v] ++ ms)) Q s₁) [] N1 .nil (by
    rintro ms m σ3 Φ3 h3 tk3 le3 rel3 rep3 ⟨τ3, rfl, h⟩
    have N3 := N1.next le3 rel3
    refine ⟨N3.heap, ?_⟩
    refine h A _ Φ3 (.fr f :: F) _ (u :: v :: ms) (N3.perm permF) (.cons (.ext u) (.cons (rep1.mono le3) rep3)) ?_
    intro x m σ4 Φ4 h4 tk4 le4 rel4 rep4 hp
    exact kk x m _ Φ4 h4 tk4 (le1.trans (le3.trans le4)) (rel4.perm permF.symm) rep4 ⟨σ4, rfl, hp⟩)
  show wpC _ A (callWith pos u [v] (backTo pos (starEach (e :: es) f.env)) []) Q _
  rw [he2] at h2 ⊢
  exact callWithC (P := fun h => ∀ a o, h₀.get? a = some o → h.get? a = some o) (by show ((false || (backTo pos (starEach es f.env)).any (·.1)) || false) = false; rw [hplain]; rfl) (fun h hh => hk _ h hh) (wpC_of (evalArgs_plain h2))
theorem CALLc_fn {P : MV → List Res → Prop} {fd : FuncData} {a : Addr} {body : List Stmt} {args : List MV} (H : FnIs h₀ a fd) (hl : h₀.NoLimit) (hbody : fd.body = .stmts body) (ps rest : List Str) (γ : List (Str × MV))
    (hγ : ∀ p ∈ γ, GlobF h₀.get? p.1 p.2) (hlen : args.length = ps.length) (hb : ∀ vs : List Value, vs.length = ps.length → bindArgs fd ⟨vs, []⟩ = pure (ps.zip vs))
    (ok : okFrame fd.scope.names (ps ++ rest) (γ.map (·.1)) = true)
    (h : ∀ L, XVc prog w h₀ d (callEnvC fd L a) γ (loc0 ps args rest) σ body (fun fl _ σ' => P (retV fl) σ'))
    (hco : fd.scope.isCoroutine = false := by rfl) (hgen : fd.scope.isGenerator = false := by rfl) (hk : fd.scope.kind = .function := by rfl) : CALLc prog w h₀ (d + 1) σ (.ext (.ref a)) args P := by
  intro A s Φ F Q vs N R kk
  cases R with | cons r0 R => ?_
  rename_i fv vals
  cases r0.ext_inv
  show wpC _ A (call (.ref a) vals) Q s
  obtain ⟨o, ho, hdat⟩ := H.obj
  have ok0 := ok
  simp only [okFrame, Bool.and_eq_true, List.all_eq_true, Bool.or_eq_true, beq_iff_eq, Bool.not_eq_true', decide_eq_true_eq] at ok
  obtain ⟨⟨⟨okl, nd⟩, ndn⟩, okg⟩ := ok
  have hlen' : vals.length = ps.length := R.length.trans hlen
  have hkeys : (ps.zip vals).map (·.1) = ps := List.map_fst_zip (by lia)
  have hroom : A.depth < recursionLimit := by have := N.room.dep; lia
  have hkind : ∀ x ∈ ps.zip vals, fd.scope.names.lookup x.1 = some .local ∨ (fd.scope.names.lookup x.1 = some .cell ∧ ((cellsFrom (s.heap.objs.size + 1) fd.scope.names []).lookup x.1).isSome = true) := by
    intro x hx
    have hx' : x.1 ∈ ps := hkeys ▸ List.mem_map.mpr ⟨x, hx, rfl⟩
    rcases (okl x.1 (List.mem_append_left _ hx')).1 with h | h
    · exact .inl h
    · exact .inr ⟨h, cellsFrom_has _ _ _ h⟩
  refine wpC_call (codeC_call_cells (fd := fd) hroom (N.heap _ _ ho) hdat (hl.keeps N.heap) (H.code.keeps N.heap) hbody (hb vals hlen') H.clo hkind (fun s₁ X => ?_) hco hgen hk)
  obtain ⟨h₁, tk, rfl, rel1⟩ := enter_rel H ps rest γ hγ hlen ok0 hk N R X
  generalize hL : s.heap.objs.size = L at *
  have room' : Room (A.deeper (callEnvC fd L a)) d := ⟨N.room.hh, by have := N.room.dep; show A.depth + 1 + d ≤ _; lia, by have := N.room.un; show A.units + 3 + 20 * d ≤ _; lia, N.room.gd⟩
  refine h L (A.deeper (callEnvC fd L a)) { s with heap := h₁, toks := tk } Φ F _ [] ⟨room', N.base, rel1⟩ .nil ?_
  rintro f fl σ' Φ2 h2 tk2 le2 rel2 rep2 ⟨ρ2, τ, rfl, hp⟩
  have rel3 : Rel Φ2 (τ ++ F) h2 := rel2.drop
  cases rep2 with
  | next => exact kk .none .none τ Φ2 h2 tk2 le2 rel3 .none hp
  | brk => exact kk .none .none τ Φ2 h2 tk2 le2 rel3 .none hp
  | cont => exact kk .none .none τ Φ2 h2 tk2 le2 rel3 .none hp
  | ret r => exact kk _ _ τ Φ2 h2 tk2 le2 rel3 r hp
theorem X1c_for {target iter : Expr} {body : List Stmt} {xs : List MV} (Inv : Nat → Loc → List Res → Prop)
    (h : EV prog w h₀ d (fs env γ ρ) σ iter (fun v σ1 => Itr v xs ∧ Inv 0 ρ σ1))
    (step : ∀ i m ρ σ, xs[i]? = some m → Inv i ρ σ → AS prog w h₀ d env γ ρ σ target m (fun ρ1 σ1 => XVc prog w h₀ d env γ ρ1 σ1 body (LP P (Inv (i + 1)))))
    (fin : ∀ ρ σ, Inv xs.length ρ σ → P .next ρ σ)
    (hs : ∀ x, foldedSetIterable iter env x = pure x := by intro _; rfl) (ht : ∀ it v, letOwnedTupleGo target it v = pure () := by intro _ _; rfl) : X1c prog w h₀ d env γ ρ σ (.For target iter body [] pos) P := by
  intro A s Φ F Q vs N R kk
  show wpC _ A (exec (.For target iter body [] pos) env) Q s
  rw [exec_For]
  refine wpC_bind (wpC_of (wpAny_standAt (wpC_bind (wpC_of (h A s Φ F _ _ [] N .nil ?_)))))
  rintro u v σ1 Φ1 h1 tk1 le1 rel1 rep1 ⟨τ, rfl, It, inv⟩
  refine wpC_bind (wpC_of (wpAny_of_eq (hs u) (wpC_bind (wpC_of (wpAny_standAt (wpC_bind (wpC_of (wpAny_holding (itr_start It N.room.hh rel1 rep1 ?_)))))))))
  intro I o fp Pv St h2 tk2 rel2 W hP hfp hlive st0
  refine wpC_runOwn ?_
  have done : ∀ fl f ρ' σ' Φ' h' tk, FLe Φ1 Φ' → Rel Φ' ((fr1 env γ ρ' :: σ') ++ F) h' → RepF Φ' fl f → P fl ρ' σ' → Q f { s with heap := h', toks := tk } :=
    fun fl f ρ' σ' Φ' h' tk le rel rep hp => kk f fl _ Φ' h' tk (le1.trans le) rel rep ⟨ρ', σ', rfl, hp⟩
  show codeC (model prog w) A _ _ _
  refine codeC_forLoop (fun k s' => ∃ h' tk i ρ' σ' Φ' o', s' = { s with heap := h', toks := tk } ∧ FLe Φ1 Φ' ∧ Rel Φ' ((fr1 env γ ρ' :: σ') ++ .raw I o' :: F) h' ∧ St i h' ∧ Inv i ρ' σ' ∧ i ≤ xs.length ∧ k = xs.length + 1 - i) ?_ (xs.length + 1)
    ⟨h2, tk2, 0, ρ, τ, Φ1, o, rfl, .refl Φ1, rel2, st0, inv, Nat.zero_le _, rfl⟩ (ht _)
  rintro k s' ⟨h1, tk1, i, ρ1, σ1, Φ2, o1, rfl, le2, rel1, st1, inv1, hi, rfl⟩
  have base2 : ∀ a o, h₀.get? a = some o → Φ2 a = some o := fun a o e => le2 a o (le1 a o (N.base a o e))
  by_cases hlt : i < xs.length
  · refine wpC_of (W.item i _ _ _ hlt st1 fun v h2 tk2 hv st2 k2 => ?_)
    obtain ⟨m, hm, rm⟩ := hP i v hv
    obtain ⟨o2, ho2⟩ := hlive _ _ st2
    have rel2 : Rel Φ2 ((fr1 env γ ρ1 :: σ1) ++ .raw I o2 :: F) h2 := ((rel1.perm permM).raw_upd (fun b o hb e => k2 b o (by simpa using hb) e) ho2).perm permM.symm
    refine wpC_of (step i m ρ1 σ1 hm inv1 A { s with heap := h2, toks := tk2 } Φ2 (.raw I o2 :: F) _ _ [v] ⟨N.room, base2, rel2⟩ (.cons (rm.mono le2) .nil) ?_)
    rintro _ _ σ3 Φ3 h3 tk3 le3 rel3 _ ⟨ρ3, τ3, rfl, hx⟩
    have st3 := W.frame _ _ _ st2 (keep_fp hfp le2 le3 rel2 rel3)
    refine hx A { s with heap := h3, toks := tk3 } Φ3 (.raw I o2 :: F) _ [] ⟨N.room, fun a o e => le3 a o (base2 a o e), rel3⟩ .nil ?_
    rintro fl f σ4 Φ4 h4 tk4 le4 rel4 rep4 ⟨ρ4, τ4, rfl, hp⟩
    have st4 := W.frame _ _ _ st3 (keep_fp hfp (le2.trans le3) le4 rel3 rel4)
    have le5 := le2.trans (le3.trans le4)
    have drop4 : Rel Φ4 ((fr1 env γ ρ4 :: τ4) ++ F) h4 := (rel4.perm permM).drop
    cases rep4 with
    | next => exact ⟨xs.length - i, by lia, h4, tk4, i + 1, ρ4, τ4, Φ4, o2, rfl, le5, rel4, st4, hp, by lia, by lia⟩
    | cont => exact ⟨xs.length - i, by lia, h4, tk4, i + 1, ρ4, τ4, Φ4, o2, rfl, le5, rel4, st4, hp, by lia, by lia⟩
    | brk => exact done .next .next ρ4 τ4 Φ4 h4 tk4 le5 drop4 .next hp
    | ret r => exact done _ _ ρ4 τ4 Φ4 h4 tk4 le5 drop4 (.ret r) hp
  · obtain rfl : i = xs.length := by lia
    refine wpC_of (W.done _ _ _ st1 fun h2 tk2 k2 => ?_)
    refine done .next .next ρ1 σ1 Φ2 h2 tk2 le2 ?_ .next (fin _ _ inv1)
    exact (rel1.perm permM).but fun b o hb e => k2 b o (by simpa using hb) e
end
end Mine
open PySem PySem.W PySem.Calls PyProof.Rows
set_option Elab.async false
set_option maxRecDepth 100000
set_option linter.unusedVariables false
namespace Mine
/-! ## bytearray -/
theorem ba_mro : mroOf (.type "bytearray") = pure [.type "bytearray", .type "object"] := by rw [mroOf_type]; kernel_rfl
theorem ba_lookup_new : typeLookup (.type "bytearray") "__new__" = pure (some (.builtin "bytearray.__new__")) := by rw [typeLookup_type, builtinLookup_eq_fast]; kernel_rfl
theorem ba_sub : isSubtype (.type "bytearray") (.type "bytearray") = pure true := by rw [isSubtype_type]; kernel_rfl
theorem ba_slot_init : Slot "bytearray" "__init__" "bytearray.__init__" :=
  .of (owner := "bytearray") (n := "__init__") (by rw [typeLookup_type, builtinLookup_eq_fast]; kernel_rfl) (by decide +kernel) (by decide +kernel) (by decide +kernel)
    (by first | exact .inl (by decide +kernel) | exact .inr (by decide +kernel)) ba_sub
theorem ba_slot_append : Slot "bytearray" "append" "bytearray.append" :=
  .of (owner := "bytearray") (n := "append") (by rw [typeLookup_type, builtinLookup_eq_fast]; kernel_rfl) (by decide +kernel) (by decide +kernel) (by decide +kernel)
    (by first | exact .inl (by decide +kernel) | exact .inr (by decide +kernel)) ba_sub
theorem ba_type_append : typeOf (.builtin "bytearray.append") = pure (.type "method_descriptor") := by show builtinType _ = _; rw [builtinType_eq_fast]; kernel_rfl
theorem ba_entry_append : entryFor table "bytearray.append" = some Builtin.«bytearray.append» := by first | exact entryFor_of_fast (by kernel_rfl) | exact entryFor_of_tree (by kernel_rfl)
theorem ba_args_append (a b : Value) : argsOk "bytearray.append" ⟨[a, b], []⟩ := by unfold argsOk; kernel_rfl
theorem ba_getattribute : typeLookup (.type "bytearray") "__getattribute__" = pure (some (.builtin "bytearray.__getattribute__")) := by rw [typeLookup_type, builtinLookup_eq_fast]; kernel_rfl
theorem ba_no_getattr : typeLookup (.type "bytearray") "__getattr__" = pure none := by rw [typeLookup_type, builtinLookup_eq_fast]; kernel_rfl
theorem ba_plain : PlainAttrs "bytearray" := ⟨⟨_, ba_getattribute, by decide +kernel⟩, ba_no_getattr⟩
section
variable {M : Model} {A : Around} {s : Shared}
theorem exported_false {a : Value} {Q : Bool → Shared → Prop} (hg : A.guards = some []) (h : Q false s) : wpC M A (Builtin.Bytes.exported a) Q s := fun Γ p hΓ hn hc => by
  have hgs : Γ.code.guards ++ guardsOf Γ.below = [] := hΓ.2.2.2.1 [] hg
  rw [← guardsOf_cons Γ.code p] at hgs
  have key : ∀ x ∈ (Γ.code, p) :: Γ.below, notDec x.1 = true ∧ x.1.isGuard = false := by
    intro x hx
    refine ⟨?_, ?_⟩
    · rcases List.mem_cons.mp hx with rfl | hx
      · exact hn
      · exact hc x hx
    · cases hgd : x.1.isGuard with
      | false => rfl
      | true =>
        have : x.1 ∈ guardsOf ((Γ.code, p) :: Γ.below) := List.mem_filter.mpr ⟨List.mem_map.mpr ⟨x, hx, rfl⟩, hgd⟩
        rw [hgs] at this; cases this
  unfold Builtin.Bytes.exported
  show Q (List.any ((Γ.code, p) :: Γ.below) _) s
  rw [List.any_eq_false.mpr]
  · exact h
  · intro x hx
    obtain ⟨k1, k2⟩ := key x hx
    obtain ⟨c, q⟩ := x
    cases c with
    | builtin id args =>
      obtain ⟨pos, kw⟩ := args
      have k1' : Builtin.Bytes.decodersThatHold.contains id = false := by simpa [notDec] using k1
      have k2' : guardIds.contains id = false := k2
      have n1 : id ≠ "bytearray.__contains__" := fun e => by rw [e] at k2'; exact absurd k2' (by decide)
      have n2 : id ≠ "bytearray.__mod__" := fun e => by rw [e] at k2'; exact absurd k2' (by decide)
      have n3 : id ≠ "bytearray.__rmod__" := fun e => by rw [e] at k2'; exact absurd k2' (by decide)
      have n4 : id ≠ "_struct.pack_into.held" := fun e => by rw [e] at k2'; exact absurd k2' (by decide)
      have n5 : id ≠ "bytearray.find.held" := fun e => by rw [e] at k2'; exact absurd k2' (by decide)
      rw [Bool.not_eq_true]
      delta PySem.Builtin.Bytes.exported.match_1
      dsimp only [PySem.Builtin.Bytes.exported._sparseCasesOn_1]
      rw [dif_neg n1, dif_neg n2, dif_neg n3, dif_neg n4, dif_neg n5]
      cases pos with
      | nil => rfl
      | cons v tl =>
        show (Builtin.Bytes.sameRef v a && Builtin.Bytes.decodersThatHold.contains id) = false
        rw [k1', Bool.and_false]
    | _ => simp
theorem checkResize_ok {a : Addr} {b : Array UInt8} {Q : Unit → Shared → Prop} (hg : A.guards = some []) (ha : s.heap.get? a = some (barrO b 0)) (h : Q () s) : wpC M A (Builtin.Bytes.checkResize (.ref a)) Q s := by
  unfold Builtin.Bytes.checkResize
  refine wpC_bind ?_
  unfold orM
  refine wpC_bind (exported_false hg ?_)
  show wpC M A (do return decide ((← Builtin.Bytes.exportsOf (.ref a)) > 0)) _ s
  refine wpC_bind ?_
  unfold Builtin.Bytes.exportsOf
  refine wpC_bind (wpC_of (wpAny_load ha ?_))
  refine wpC_pure (wpC_pure ?_)
  exact wpC_pure h
end
end Mine
open PySem PySem.W PySem.Calls PyProof.Rows
set_option Elab.async false
set_option maxRecDepth 100000
set_option linter.unusedVariables false
set_option linter.deprecated false
namespace Mine
theorem wpC_if_false {α : Type} {M : Model} {A : Around} {s : Shared} {c : Bool} {a b : Sem α} {Q : α → Shared → Prop} (hc : c = false) (h : wpC M A b Q s) : wpC M A (if c = true then a else b) Q s := by
  subst hc; exact h
section
variable {prog : Program} {w : World} {A : Around} {s : Shared}
theorem wpC_call_entry {T : String} {name : Str} {id : String} {b : Builtin} {self : Value} {rest : List Value} {Q : Value → Shared → Prop} (h : Slot T name id) (hT : s.TypeIs self T) (hb : entryFor table id = some b)
    (hn : Builtin.Bytes.decodersThatHold.contains id = false) (hc : wpC (model prog w) A.in1 (b ⟨self :: rest, []⟩) (fun fin s' => ∃ v, fin = .done (.ret v) ∧ Q v s') s) (ha : argsOk id ⟨self :: rest, []⟩) :
    wpC (model prog w) A (call (.builtin id) (self :: rest)) Q s := by
  refine wpC_call (codeC_tree ?_)
  show wpC _ A.in1 (do checkBuiltinCall id ⟨self :: rest, []⟩; again (.builtin id ⟨self :: rest, []⟩)) _ s
  refine wpC_bind (wpC_of (h.check _ _ _ _ _ _ _ _ hT ha (wpC_pure ⟨plainId_quiet h.plain _, ?_⟩)))
  refine codeC_tree ?_ (by show (!Builtin.Bytes.decodersThatHold.contains id) = true; rw [hn]; rfl)
  show wpC _ _ (match entryFor table id with | some b => b ⟨self :: rest, []⟩ | none => unsupported ((withoutEnding? id "#data").getD id)) _ s
  rw [hb, Around.under_plainId h.plain]
  refine wpC_mono hc ?_
  rintro fin s' ⟨v, rfl, hq⟩
  exact hq
theorem ba_push {a : Addr} {b : Array UInt8} {x : UInt8} {Q : Unit → Shared → Prop} (ha : s.heap.get? a = some (barrO b 0)) (hz : b.size < sizeLine)
    (h : Q () { s with heap := s.heap.update a (Obj.mapBytearray (·.push x)) }) : wpC (model prog w) A (updateBytearray a (·.push x)) Q s := by
  unfold updateBytearray
  refine wpC_bind (wpC_of (wpAny_load ha ?_))
  show wpC _ _ (update a (Obj.mapBytearray (·.push x)) >>= fun _ => lookBehind a) _ _
  refine wpC_bind (wpC_of (wpAny_update ha ?_))
  have h2 : (s.heap.update a (Obj.mapBytearray (·.push x))).get? a = some (barrO (b.push x) 0) := Heap.get?_update_self (Obj.mapBytearray (·.push x)) ha rfl
  refine wpC_of (wpAny_lookBehind h2 ?_ h)
  show (if (b.push x).size > sizeLine then some "bytearray:memory" else none) = none
  rw [if_neg]
  rw [Array.size_push]; lia
end
section
variable {prog : Program} {w : World} {h₀ : Heap} {d : Nat} {σ σ' : List Res} {P : MV → List Res → Prop} {a : Addr} {b : Array UInt8}
theorem HM_ba_append (hm : .barr a b ∈ σ) : HasMeth prog w h₀ σ (.ref a) (Str.ofString "append") (.builtin "bytearray.append") := by
  intro A s Φ F E Q v pl _ rel r q
  (first | obtain ⟨_, rfl⟩ := r.inv_int | obtain rfl := r.inv_ref | obtain rfl := r.inv_none | obtain rfl := r.inv_bool | cases r)
  obtain ⟨ho, _⟩ := rel.res _ (List.mem_append_left _ hm)
  refine getMethod_builtin (T := "bytearray") ⟨_, ho, rfl⟩ ba_plain ba_slot_append ba_type_append (fun c e => ?_) q
  cases e
  exact ⟨_, ho, rfl⟩
theorem CALLc_ba_append {n : Int} (U : UpdR (.barr a b) (.barr a (b.push n.toNat.toUInt8)) σ σ') (h0 : 0 ≤ n) (h1 : n < 256) (hz : b.size < sizeLine) (h : P .none σ') : CALLc prog w h₀ d σ (.ext (.builtin "bytearray.append")) [.ref a, .int n] P := by
  intro A s Φ F Q vs N R kk
  cases R with | cons r0 R => ?_
  cases R with | cons r1 R => ?_
  obtain ⟨x, rfl, rx⟩ := R.one
  cases r0.ext_inv
  (first | obtain ⟨_, rfl⟩ := r1.inv_int | obtain rfl := r1.inv_ref | obtain rfl := r1.inv_none | obtain rfl := r1.inv_bool | cases r1); (first | obtain ⟨_, rfl⟩ := rx.inv_int | obtain rfl := rx.inv_ref | obtain rfl := rx.inv_none | obtain rfl := rx.inv_bool | cases rx)
  rename_i t
  obtain ⟨ho, hw⟩ := N.rel.res _ (List.mem_append_left _ U.mem)
  show wpC _ A (call (.builtin "bytearray.append") [.ref a, .int n t]) Q s
  refine wpC_call_entry ba_slot_append (T := "bytearray") ⟨_, ho, rfl⟩ ba_entry_append (by decide +kernel) ?_ (ba_args_append _ _)
  unfold Builtin.«bytearray.append»
  refine wpC_bind (wpC_of (wpAny_of_eq (a := (Value.ref a, Value.int n t)) rfl ?_))
  refine wpC_bind ?_
  unfold Builtin.Bytes.byteValue
  refine wpC_bind (wpC_of (wpAny_of_eq (rfl : asIndex (.int n t) = pure n) ?_))
  refine wpC_if_false (by simp only [Bool.or_eq_false_iff, decide_eq_false_iff_not]; lia) ?_
  refine wpC_pure ?_
  refine wpC_bind (checkResize_ok N.room.gd ho ?_)
  refine wpC_bind ?_
  show wpC _ _ (updateBytearray a (·.push n.toNat.toUInt8)) _ _
  refine ba_push ho hz (wpC_pure ⟨.none, rfl, ?_⟩)
  have h2 : (s.heap.update a (Obj.mapBytearray (·.push n.toNat.toUInt8))).get? a = some (barrO (b.push n.toNat.toUInt8) 0) := Heap.get?_update_self (Obj.mapBytearray (·.push n.toNat.toUInt8)) ho rfl
  refine kk .none .none σ' Φ _ s.toks (.refl Φ) ?_ .none h
  refine N.rel.upd U (fun c o hc e => (Heap.get?_update_other _ _ (fun q => hc (by rw [← q]; exact .head _))).trans e) rfl (fun c hc => by simp [Res.addrs] at hc; subst hc; exact ⟨_, h2⟩) ⟨h2, by rw [Array.size_push]; lia⟩
/-! bytes of a bytearray -/
theorem ba_no_bytes : typeLookup (.type "bytearray") "__bytes__" = pure none := by rw [typeLookup_type, builtinLookup_eq_fast]; kernel_rfl
theorem ba_no_index : typeLookup (.type "bytearray") "__index__" = pure none := by rw [typeLookup_type, builtinLookup_eq_fast]; kernel_rfl
theorem ba_buffer : typeLookup (.type "bytearray") "__buffer__" = pure (some (.builtin "bytearray.__buffer__")) := by rw [typeLookup_type, builtinLookup_eq_fast]; kernel_rfl
theorem ba_release : typeLookup (.type "bytearray") "__release_buffer__" = pure (some (.builtin "bytearray.__release_buffer__")) := by rw [typeLookup_type, builtinLookup_eq_fast]; kernel_rfl
theorem ba_slotIsOwn {A : Around} {E : Value → Shared → Prop} {s : Shared} {Q : Bool → Shared → Prop} {v : Value} {name id : String} (hT : s.TypeIs v "bytearray") (hl : typeLookup (.type "bytearray") (name : Str) = pure (some (.builtin id))) (h1 : id.endsWith ("." ++ name) = true)
    (h2 : id.dropRight (name.length + 1) = "bytearray") (h : Q true s) : wpAny (model prog w) A (Builtin.Bytes.slotIsOwn v name) Q E s := by
  unfold Builtin.Bytes.slotIsOwn
  refine wpAny_bind (wpAny_specialOf hT hl ?_)
  dsimp only
  rw [h1, h2]
  exact wpAny_isInstance hT ba_sub h
theorem bytes_of_ba {A : Around} {E : Value → Shared → Prop} {s : Shared} {Q : Value → Shared → Prop} (hh : A.handled = none) (ha : s.heap.get? a = some (barrO b 0)) (hz : b.size ≤ sizeLine)
    (hQ : ∀ t k, Q (.bytes b t) { s with toks := k }) : wpAny (model prog w) A (call (.type "bytes") [.ref a]) Q E s := by
  have hT : s.TypeIs (.ref a) "bytearray" := ⟨_, ha, rfl⟩
  refine callType_codes (Q₁ := fun obj s₁ => s₁.TypeIs obj "bytes" ∧ Q obj s₁) PySem.F.bm_called (PySem.F.bm_typeCall _) PySem.F.entry_object_init ?_ fun obj s₁ h₁ =>
    ⟨h₁.1, PySem.F.args_object_init_2 obj _, object_init_meets PySem.F.bm_called.init.lookup PySem.F.bm_called.made (by decide) prog w A.in1 _ s₁ ⟨h₁.1, rfl, h₁.2⟩⟩
  refine codeAny_of_tree ?_
  show wpAny _ _ (do checkBuiltinCall "bytes.__new__" ⟨[.type "bytes", .ref a], []⟩; again (.builtin "bytes.__new__" ⟨[.type "bytes", .ref a], []⟩)) _ _ s
  refine wpAny_bind (wpAny_of_eq (PySem.F.bm_newCall _) (wpAny_pure ⟨plainId_quiet PySem.F.bm_plain _, codeAny_builtin PySem.F.bm_entry ?_⟩))
  rw [Around.under_plainId PySem.F.bm_plain _]
  unfold Builtin.«bytes.__new__»
  refine wpAny_bind (wpAny_of_eq (a := true) rfl ?_)
  refine bm_if_false rfl ?_
  refine wpAny_bind (wpAny_of_eq PySem.F.bm_sub ?_)
  refine bm_if_false rfl ?_
  refine wpAny_bind (wpAny_of_eq (PySem.F.bm_bind _) ?_)
  refine wpAny_bind (wpAny_of_eq (a := ()) rfl ?_)
  refine wpAny_bind (wpAny_of_eq (a := ()) rfl ?_)
  refine bm_if_false rfl ?_
  refine wpAny_bind (wpAny_specialOf hT ba_no_bytes ?_)
  refine wpAny_bind (wpAny_bind ?_)
  show wpAny _ _ (load a >>= _) _ _ _
  refine wpAny_bind (wpAny_load ha ?_)
  refine wpAny_pure (wpAny_pure ?_)
  refine bm_if_false rfl ?_
  refine wpAny_bind (wpAny_specialOf hT ba_no_index ?_)
  refine bm_if_true rfl ?_
  first
    | show wpAny _ _ (Builtin.Bytes.buffer? "bytes.__new__" (.ref a) true >>= _) _ _ _
    | (refine wpAny_bind ?_; show wpAny _ _ (Builtin.Bytes.buffer? "bytes.__new__" (.ref a) true >>= _) _ _ _)
  refine wpAny_bind ?_
  unfold Builtin.Bytes.buffer?
  refine wpAny_bind (wpAny_specialOf hT ba_buffer ?_)
  refine wpAny_bind (ba_slotIsOwn hT ba_buffer (by decide +kernel) (by decide +kernel) ?_)
  refine bm_if_false rfl ?_
  refine wpAny_bind (wpAny_specialOf hT ba_buffer ?_)
  refine wpAny_bind ?_
  unfold Builtin.Bytes.ownRelease
  refine wpAny_bind (ba_slotIsOwn hT ba_release (by decide +kernel) (by decide +kernel) ?_)
  refine wpAny_pure ?_
  refine bm_if_false rfl ?_
  refine wpAny_bind ?_
  unfold Builtin.Bytes.payload Builtin.Bytes.payload?
  refine wpAny_bind (wpAny_bind (wpAny_load ha ?_))
  refine wpAny_pure (wpAny_pure ?_)
  refine wpAny_pure ?_
  refine wpAny_bind (wpAny_rule ?_)
  refine wpAny_bind (wpAny_mkBytes ?_ hz)
  show wpAny _ _ (if (Value.type "bytes" == Value.type "bytes") = true then _ else _) _ _ _
  refine bm_if_true (by decide) ?_
  first
    | exact wpAny_pure ⟨PySem.W.typeIs_bytes _ _ _, hQ _ _⟩
    | exact wpAny_bind (wpAny_pure (wpAny_pure ⟨PySem.W.typeIs_bytes _ _ _, hQ _ _⟩))
theorem CALL_bytes_ba (hm : .barr a b ∈ σ) (h : P (.bytes b) σ) : CALL prog w h₀ d σ (.ext (.type "bytes")) [.ref a] P := by
  intro A s Φ F E Q vs N R kk
  obtain ⟨x, y, rfl, r1, r2⟩ := R.two
  cases r1.ext_inv
  (first | obtain ⟨_, rfl⟩ := r2.inv_int | obtain rfl := r2.inv_ref | obtain rfl := r2.inv_none | obtain rfl := r2.inv_bool | cases r2)
  obtain ⟨ho, hw⟩ := N.rel.res _ (List.mem_append_left _ hm)
  exact bytes_of_ba N.room.hh ho hw fun t k => kk _ (.bytes b) σ Φ s.heap k (.refl Φ) N.rel (.bytes b t hw) h
theorem CALL_bytes_ints {ns : List Int} {u : MV} (I : IsL σ u (ns.map .int)) (hr : ∀ n ∈ ns, 0 ≤ n ∧ n < 256) (h : P (.bytes (byteArr ns)) σ) : CALL prog w h₀ d σ (.ext (.type "bytes")) [u] P := by
  intro A s Φ F E Q vs N R kk
  obtain ⟨x, y, rfl, r1, r2⟩ := R.two
  cases r1.ext_inv
  obtain ⟨c, us, rfl, hl, hz, rs⟩ := I.real N.rel r2
  have hlen := rs.length
  refine call_bytes_ints hl rs.ints hr hz N.room.hh fun h' t k hk => ?_
  refine kk _ (.bytes (byteArr ns)) σ Φ h' k (.refl Φ) (N.rel.kept hk) (.bytes _ t ?_) h
  rw [byteArr_size]
  simp at hlen
  lia
end
/-! a new bytearray -/
section
variable {prog : Program} {w : World} {A : Around} {s : Shared}
theorem ba_plain_new : plainId "bytearray.__new__" = true := by decide +kernel
theorem ba_entry_new : entryFor table "bytearray.__new__" = some Builtin.«list.__new__» := entryFor_alias (id' := "list.__new__") (by kernel_rfl) (by kernel_rfl) (by kernel_rfl) (by kernel_rfl)
theorem ba_entry_init : entryFor table "bytearray.__init__" = some Builtin.«bytearray.__init__» := by first | exact entryFor_of_fast (by kernel_rfl) | exact entryFor_of_tree (by kernel_rfl)
theorem ba_newCall : checkBuiltinCall "bytearray.__new__" ⟨[.type "bytearray"], []⟩ = pure () := by kernel_rfl
theorem ba_typeCall : checkTypeCall "bytearray" ⟨[], []⟩ = pure () := by kernel_rfl
theorem ba_args_init (a : Value) : argsOk "bytearray.__init__" ⟨[a], []⟩ := by unfold argsOk; kernel_rfl
theorem ba_made : Bind.madeBy (.type "bytearray") = pure (some "bytearray.__new__") := madeBy_type ba_mro ba_lookup_new (by decide +kernel)
set_option maxHeartbeats 4000000 in
theorem ba_owner : ("bytearray.__new__".splitOn ".__new__").headD "" = "bytearray" := by simp +decide [String.splitOn, String.splitOnAux]
theorem code_ba_new {E : Value → Shared → Prop} {Q₁ : Value → Shared → Prop} (h : Q₁ (.ref s.heap.objs.size) { s with heap := s.heap.push (barrO #[] 0) }) :
    codeAny (model prog w) A (.call (.builtin "bytearray.__new__") ⟨[.type "bytearray"], []⟩) (wants Q₁ E) s := by
  refine codeAny_of_tree ?_
  show wpAny _ A.in1 (do checkBuiltinCall "bytearray.__new__" ⟨[.type "bytearray"], []⟩; again (.builtin "bytearray.__new__" ⟨[.type "bytearray"], []⟩)) _ _ s
  refine wpAny_bind (wpAny_of_eq ba_newCall (wpAny_pure ⟨plainId_quiet ba_plain_new _, codeAny_builtin_stack ba_entry_new rfl fun p st => ?_⟩))
  rw [Around.under_plainId ba_plain_new _]
  have hsub := ba_sub
  have hown := ba_owner
  obtain ⟨hp, g, d, tk, os⟩ := s
  simp only [hown]
  wp_walk
  exact h
end
end Mine
open PySem PySem.W PySem.Calls PyProof.Rows
set_option Elab.async false
set_option maxRecDepth 100000
set_option linter.unusedVariables false
set_option linter.deprecated false
namespace Mine
section
variable {prog : Program} {w : World} {A : Around} {s : Shared}
theorem codeC_builtin {id : String} {args : Args} {b : Builtin} {Q : Flow → Shared → Prop} (hb : entryFor table id = some b) (hn : notDec (.builtin id args) = true)
    (h : wpC (model prog w) (A.under (.builtin id args)) (b args) (fun fin s' => match fin with | .done f => Q f s' | .again c' => c'.quiet = true ∧ codeC (model prog w) A c' Q s') s) : codeC (model prog w) A (.builtin id args) Q s := by
  refine codeC_tree ?_ hn
  show wpC _ _ (match entryFor table id with | some b => b args | none => unsupported ((withoutEnding? id "#data").getD id)) _ s
  rw [hb]; exact h
theorem ba_cannot : ((Manifest.find? "bytearray").bind (·.mro.findSome? fun t => (Manifest.find? t).bind fun b => if b.noNew then some true else if b.attrs.any (·.1 == "__new__") then some false else none)).getD false = false := by decide +kernel
theorem ba_bind : Builtin.Bytes.bindOptional "bytearray.__init__" "bytearray" ["source", "encoding", "errors"] [] [] = pure [none, none, none] := by kernel_rfl
theorem ba_init {a : Addr} {b : Array UInt8} {Q : Fin → Shared → Prop} (hg : A.guards = some []) (ha : s.heap.get? a = some (barrO b 0)) (h : Q (.done (.ret .none)) { s with heap := s.heap.update a (Obj.mapBytearray fun _ => #[]) }) :
    wpC (model prog w) A (Builtin.«bytearray.__init__» ⟨[.ref a], []⟩) Q s := by
  have hT : s.TypeIs (.ref a) "bytearray" := ⟨_, ha, rfl⟩
  unfold Builtin.«bytearray.__init__»
  refine wpC_bind ?_
  unfold Builtin.Bytes.ownRelease
  refine wpC_bind (wpC_of (ba_slotIsOwn hT ba_release (by decide +kernel) (by decide +kernel) ?_))
  refine wpC_pure ?_
  refine wpC_if_false rfl ?_
  refine wpC_bind (wpC_of (wpAny_of_eq ba_bind ?_))
  refine wpC_bind (wpC_of (wpAny_of_eq (a := ()) rfl ?_))
  refine wpC_bind (wpC_of (wpAny_of_eq (a := ()) rfl ?_))
  refine wpC_bind ?_
  unfold orM
  refine wpC_bind (exported_false hg ?_)
  show wpC _ _ (do return decide ((← Builtin.Bytes.exportsOf (.ref a)) > 0)) _ s
  refine wpC_bind ?_
  unfold Builtin.Bytes.exportsOf
  refine wpC_bind (wpC_of (wpAny_load ha ?_))
  refine wpC_pure (wpC_pure ?_)
  refine wpC_if_false rfl ?_
  refine wpC_bind ?_
  show wpC _ _ (updateBytearray a (fun _ => #[])) _ _
  unfold updateBytearray
  refine wpC_bind (wpC_of (wpAny_load ha ?_))
  show wpC _ _ (update a (Obj.mapBytearray (fun _ => #[])) >>= fun _ => lookBehind a) _ _
  refine wpC_bind (wpC_of (wpAny_update ha ?_))
  have h2 : (s.heap.update a (Obj.mapBytearray (fun _ => #[]))).get? a = some (barrO #[] 0) := Heap.get?_update_self (Obj.mapBytearray (fun _ => #[])) ha rfl
  refine wpC_of (wpAny_lookBehind h2 (by decide) ?_)
  refine wpC_bind (wpC_of (wpAny_of_eq (a := ()) rfl ?_))
  exact wpC_pure h
theorem call_ba0 {Q : Value → Shared → Prop} (hg : A.guards = some [])
    (h : ∀ h', h'.get? s.heap.objs.size = some (barrO #[] 0) → (∀ b o, s.heap.get? b = some o → h'.get? b = some o) → Q (.ref s.heap.objs.size) { s with heap := h' }) : wpC (model prog w) A (call (.type "bytearray") []) Q s := by
  refine wpC_call (codeC_tree ?_)
  show wpC _ _ (callAny (.type "bytearray") _) _ _
  refine wpC_pure (a := Fin.again (.builtin "type.__call__" ⟨[.type "bytearray"], []⟩)) ⟨Code.quiet_builtin _ (by decide +kernel), ?_⟩
  have hn : notDec (.builtin "type.__call__" ⟨[.type "bytearray"], []⟩) = true := by kernel_rfl
  refine codeC_builtin PySem.F.entry_type_call hn ?_
  rw [Around.under_plain (weight_type_call_type "bytearray" [] []) rfl]
  unfold Builtin.«type.__call__»
  refine wpC_if_false rfl ?_
  refine wpC_if_false ba_cannot ?_
  refine wpC_bind (wpC_of (wpAny_of_eq ba_typeCall ?_))
  refine wpC_bind (wpC_of (wpAny_of_eq ba_mro ?_))
  refine wpC_if_false rfl ?_
  refine wpC_bind (wpC_of (wpAny_of_eq ba_made ?_))
  refine wpC_bind (wpC_pure ?_)
  refine wpC_bind (wpC_holding (wpC_of (wpAny_call (codeAny_mono (code_ba_new (E := fun _ _ => False) (Q₁ := fun v s' => v = .ref s.heap.objs.size ∧ s' = { s with heap := s.heap.push (barrO #[] 0) }) ⟨rfl, rfl⟩) fun r s1 hr => ?_))))
  cases r with
  | error e => exact hr
  | ok fl =>
    cases fl with
    | ret v =>
      obtain ⟨rfl, rfl⟩ := hr
      have g := Heap.get?_push_size s.heap (o := barrO #[] 0) rfl
      have hT : ({ s with heap := s.heap.push (barrO #[] 0) } : Shared).TypeIs (.ref s.heap.objs.size) "bytearray" := ⟨_, g, rfl⟩
      refine wpC_bind (wpC_of (wpAny_isInstance hT ba_sub ?_))
      refine wpC_if_false rfl ?_
      refine wpC_bind (wpC_holding ?_)
      unfold callSpecial?
      refine wpC_bind (wpC_of (wpAny_specialOf hT ba_slot_init.lookup ?_))
      refine wpC_holding (wpC_bind (wpC_of (wpAny_of_eq (ba_slot_init.bind _) ?_)))
      refine wpC_bind ?_
      show wpC _ _ (call (.builtin "bytearray.__init__") [.ref s.heap.objs.size]) _ _
      refine wpC_call_entry ba_slot_init hT ba_entry_init (by decide +kernel) (ba_init (b := #[]) hg g ⟨.none, rfl, ?_⟩) (ba_args_init _)
      refine wpC_pure ?_
      refine wpC_if_false rfl ?_
      refine wpC_pure ?_
      have h2 := Heap.get?_update_self (Obj.mapBytearray (fun _ => (#[] : Array UInt8))) g rfl
      refine h _ h2 fun b o e => ?_
      have hne : s.heap.objs.size ≠ b := Ne.symm (Nat.ne_of_lt (Heap.lt_size e))
      exact (Heap.get?_update_other _ _ hne).trans (Heap.get?_push_of_some _ e)
    | _ => exact hr.elim
theorem CALLc_ba0 {h₀ : Heap} {d : Nat} {σ : List Res} {P : MV → List Res → Prop} (h : ∀ a, P (.ref a) (.barr a #[] :: σ)) : CALLc prog w h₀ d σ (.ext (.type "bytearray")) [] P := by
  intro A s Φ F Q vs N R kk
  obtain ⟨u, rfl, r⟩ := R.one
  cases r.ext_inv
  show wpC _ A (call (.type "bytearray") []) Q s
  refine call_ba0 N.room.gd fun h' g hk => ?_
  have fr : s.heap.get? s.heap.objs.size = none := fresh_get (Nat.le_refl _)
  refine kk (.ref s.heap.objs.size) (.ref s.heap.objs.size) (.barr s.heap.objs.size #[] :: σ) Φ h' s.toks (.refl Φ) (N.rel.push_res (r := .barr s.heap.objs.size #[]) hk (by simp [Res.addrs]) ?_ ?_ ⟨g, Nat.zero_le _⟩) (.ref _) (h _)
  · intro a ha; simp [Res.addrs] at ha; subst ha; exact fr
  · intro a ha; simp [Res.addrs] at ha; subst ha; exact ⟨_, g⟩
end
end Mine
open PySem PySem.W PySem.Calls PyProof.Rows
set_option Elab.async false
set_option maxRecDepth 100000
set_option linter.unusedVariables false
set_option linter.deprecated false
namespace Mine
/-! ## instances -/
noncomputable def putK : List (Str × MV) → Str → MV → List (Str × MV)
  | [], x, m => [(x, m)]
  | (y, m') :: r, x, m => if y == x then (y, m) :: r else (y, m') :: putK r x m
noncomputable def getK : List (Str × MV) → Str → Option MV
  | [], _ => none
  | (y, m') :: r, x => if y == x then some m' else getK r x
theorem EsRep.get {Φ : FMap} {x : Str} : ∀ {kvs : List (Str × MV)} {es : List DictEntry}, EsRep Φ kvs es →
    (getK kvs x = none → getL x es = some none) ∧ ∀ m, getK kvs x = some m → ∃ v, getL x es = some (some v) ∧ Rep Φ m v
  | _, _, .nil => ⟨fun _ => rfl, fun _ h => nomatch h⟩
  | _, _, .cons (x := y) (m := m') (t := t) (hsh := hs) (v := v) (kvs := kvs) (es := es) r rs => by
    obtain ⟨h1, h2⟩ := rs.get (x := x)
    cases e : (y == x) with
    | true =>
      have g : getL x (⟨hs, .str y t, v⟩ :: es) = some (some v) := by
        unfold getL
        rw [List.find?_cons_of_pos (by show Value.isStr (.str y t) x = true; exact e)]
      refine ⟨fun h => by simp [getK, e] at h, fun m h => ?_⟩
      simp [getK, e] at h
      subst h
      exact ⟨v, g, r⟩
    | false =>
      have g : getL x (⟨hs, .str y t, v⟩ :: es) = getL x es := by
        unfold getL
        rw [List.find?_cons_of_neg (by show ¬ Value.isStr (.str y t) x = true; rw [show Value.isStr (.str y t) x = (y == x) from rfl, e]; decide), List.any_cons]
        rfl
      rw [g]
      exact ⟨fun h => h1 (by simpa [getK, e] using h), fun m h => h2 m (by simpa [getK, e] using h)⟩
theorem EsRep.put {Φ : FMap} {x : Str} {m : MV} {v : Value} {hs : Int} {t : Tok} (rv : Rep Φ m v) : ∀ {kvs : List (Str × MV)} {es : List DictEntry}, EsRep Φ kvs es → EsRep Φ (putK kvs x m) (putL x hs (.str x t) v es)
  | _, _, .nil => .cons rv .nil
  | _, _, .cons (x := y) (t := t') (hsh := hs') (v := v') (kvs := kvs) (es := es) r rs => by
    show EsRep Φ (if y == x then (y, m) :: kvs else (y, _) :: putK kvs x m) (if Value.isStr (.str y t') x then ⟨hs', .str y t', v⟩ :: es else ⟨hs', .str y t', v'⟩ :: putL x hs (.str x t) v es)
    rw [show Value.isStr (.str y t') x = (y == x) from rfl]
    cases e : (y == x) with
    | true => simp only [if_true]; exact .cons rv rs
    | false => simp only [Bool.false_eq_true, if_false]; exact .cons r (rs.put rv)
theorem putL_length (x : Str) (hs : Int) (k v : Value) : ∀ es : List DictEntry, (putL x hs k v es).length ≤ es.length + 1
  | [] => Nat.le_refl _
  | e :: r => by
    show (if e.key.isStr x then (⟨e.hash, e.key, v⟩ :: r : List DictEntry) else e :: putL x hs k v r).length ≤ _
    split
    · simp
    · simp; exact putL_length x hs k v r
theorem EsRep.len {Φ : FMap} : ∀ {kvs : List (Str × MV)} {es : List DictEntry}, EsRep Φ kvs es → es.length = kvs.length
  | _, _, .nil => rfl
  | _, _, .cons _ r => congrArg (· + 1) r.len
/-- a plain class of the program -/
structure ClsK (K : Frag) (C : Addr) : Prop where
  dict : hasDictIn K C = true
  ga : findIn K (.ref C) "__getattribute__" = some (some (.builtin "object.__getattribute__"))
  gat : findIn K (.ref C) "__getattr__" = some none
  sa : findIn K (.ref C) "__setattr__" = some (some (.builtin "object.__setattr__"))
  over : plainOver K C = true
  make : makesIn K C = true
theorem inst_at {h : Heap} {x dx C : Addr} {es : List DictEntry} {n : Nat} (h1 : h.get? x = some ⟨.ref C, some dx, .plain, #[]⟩) (h2 : h.get? dx = some (dictOf es n)) : InstAt h x ⟨.ref C, some dx, .plain, #[]⟩ C (some (dictOf es n)) :=
  ⟨h1, rfl, rfl, h2⟩
section
variable {prog : Program} {w : World} {h₀ : Heap} {K : Frag} {d : Nat} {f : FrS} {env : Env} {γ : List (Str × MV)} {ρ : Loc} {σ σ' : List Res} {P : MV → List Res → Prop} {x dx C : Addr} {kvs : List (Str × MV)} {name : Str} {m : MV} {pos npos apos : Pos}
theorem rep_handed {Φ : FMap} {m : MV} {v : Value} (r : Rep Φ m v) (h : ∀ u, m ≠ .ext u) : handedIn v = true := by
  cases r <;> first | rfl | exact absurd rfl (h _)
theorem EV_attr {o : Expr} (X₀ : K.In h₀) (CK : ClsK K C) (hf : findIn K (.ref C) name = some none) (h : EV prog w h₀ d f σ o (fun ov σ1 => ov = .ref x ∧ .inst x dx C kvs ∈ σ1 ∧ getK kvs name = some m ∧ (∀ u, m ≠ .ext u) ∧ P m σ1))
    (hb : ∀ env whole, attributeBase o name env whole = whole := by intros; rfl) (ht : ∀ o' r, letTemporaryGo o o' r = pure () := by intros; rfl) : EV prog w h₀ d f σ (.Attribute o name apos) P := by
  intro A s Φ F E Q vs N R kk
  show wpAny _ A (eval (.Attribute o name apos) f.env) Q E s
  rw [arm_eval_Attribute, hb]
  refine wpAny_bind (h A s Φ F _ _ [] N .nil ?_)
  rintro v ov σ1 Φ1 h1 tk1 le1 rel1 rep1 ⟨τ, rfl, rfl, hm, hg, hne, hp⟩
  (first | obtain ⟨_, rfl⟩ := rep1.inv_int | obtain rfl := rep1.inv_ref | obtain rfl := rep1.inv_none | obtain rfl := rep1.inv_bool | cases rep1)
  refine wpAny_bind (wpAny_standAt (wpAny_bind (wpAny_holding ?_)))
  obtain ⟨es, n, hx, hdx, hz, hes⟩ := rel1.res _ (List.mem_append_left _ (List.mem_cons_of_mem _ hm))
  obtain ⟨v, hl, rv⟩ := (hes.get (x := name)).2 m hg
  have X : K.In h1 := X₀.keeps fun a o e => rel1.le _ _ (le1 _ _ (N.base _ _ e))
  refine get_value (s := { s with heap := h1, toks := tk1 }) X (inst_at hx hdx) CK.ga (findObj_own CK.dict hf rfl (by rw [lookIn_dict]; exact hl)) (rep_handed rv hne) ?_
  refine wpAny_bind (wpAny_of_eq (ht _ _) (wpAny_pure ?_))
  exact kk v m _ Φ1 h1 _ le1 rel1 rv ⟨τ, rfl, hp⟩
theorem HM_inst {fa : Addr} (X₀ : K.In h₀) (CK : ClsK K C) (hf : findIn K (.ref C) name = some (some (.ref fa))) (ht : isFn K (.ref fa) = true) (hm : .inst x dx C kvs ∈ σ) (hl : getK kvs name = none) : HasMeth prog w h₀ σ (.ref x) name (.ref fa) := by
  intro A s Φ F E Q v pl base rel r q
  (first | obtain ⟨_, rfl⟩ := r.inv_int | obtain rfl := r.inv_ref | obtain rfl := r.inv_none | obtain rfl := r.inv_bool | cases r)
  obtain ⟨es, n, hx, hdx, hz, hes⟩ := rel.res _ (List.mem_append_left _ hm)
  have X : K.In s.heap := X₀.keeps fun a o e => rel.le _ _ (base _ _ e)
  refine method_fn X (inst_at hx hdx) CK.ga CK.gat hf (beq_iff_eq.mp ht) ?_ q
  show (lookIn name (dictOf es n)).map _ = _
  rw [lookIn_dict, (hes.get (x := name)).1 hl]; rfl
theorem osa_exact {A : Around} {s : Shared} {R : Result → Shared → Prop} {v : Value} {tk : Tok} {es : List DictEntry} {n : Nat} (X : K.In s.heap) (CK : ClsK K C) (hx : s.heap.get? x = some ⟨.ref C, some dx, .plain, #[]⟩) (hdx : s.heap.get? dx = some (dictOf es n))
    (ht : takerIn K C name = some none) (hl : (getL name es).isSome = true) (hz : (putL name (PyData.keyHash w.params name) (.str name s.toks) v es).length ≤ 1000)
    (h : R (.ok (.ret .none)) { s with heap := s.heap.update dx (Obj.putName name (PyData.keyHash w.params name) (.str name s.toks) v), toks := s.toks + 1 }) :
    codeAny (model prog w) A (.call (.builtin "object.__setattr__") ⟨[.ref x, .str name tk, v], []⟩) R s := by
  have I := inst_at hx hdx
  refine osa_open X I CK.over ht fun b => ?_
  obtain ⟨cd, hc, hd'⟩ := any_some CK.dict
  have hnew := Heap.get?_update_self (Obj.putName name (PyData.keyHash w.params name) (.str name s.toks) v) hdx (by rw [putName_dict]; rfl)
  rw [putName_dict] at hnew
  refine wpAny_bind (wpAny_pure (wpAny_bind (wpAny_bind (wpAny_loadPart hx (wpAny_bind ((looks_clsIn X hc).here ?_))))))
  rw [hd']
  refine wpAny_pure (a := some dx) (wpAny_bind (wpAny_pure (wpAny_bind ?_)))
  unfold nsSet
  refine wpAny_bind (wpAny_bind (wpAny_askSetting (wpAny_pure (wpAny_bind (wpAny_mkText (wpAny_bind (wpAny_loadPart hdx ?_)))))))
  dsimp only
  have c : (!es.toArray.any (·.key.isStr name) && es.toArray.any (·.refKey)) = false := by
    rw [← Array.any_toList, ← Array.any_toList]
    unfold getL at hl
    split at hl
    · rename_i en he
      rw [List.any_eq_true.mpr ⟨en, List.mem_of_find?_eq_some he, List.find?_some he⟩]; rfl
    · split at hl
      · cases hl
      · rename_i z
        rw [Bool.not_eq_true] at z
        show (!es.any _ && es.any (·.refKey)) = false
        rw [z, Bool.and_false]
  rw [aRefKeyMayBeTheName_at, c]
  refine wpAny_updatePart hdx ?_
  refine wpAny_bind (wpAny_lookBehind hnew (pastItsLine_dict (by rw [List.size_toArray, sizeLine_eq]; lia)) ?_)
  exact wpAny_pure h
/-- a store into an attribute -/
def SETA (prog : Program) (w : World) (h₀ : Heap) (d : Nat) (σ : List Res) (name : Str) (a b : MV) (P : List Res → Prop) : Prop :=
  JJ prog w h₀ d (fun _ (_ : Unit) (_ : Unit) => True) σ [a, b] (fun vs => setAttr (vs.getD 0 .none) name (vs.getD 1 .none)) (fun _ => P)
theorem SETA_inst {Q' : List Res → Prop} (X₀ : K.In h₀) (CK : ClsK K C) (ht : takerIn K C name = some none) (U : UpdR (.inst x dx C kvs) (.inst x dx C (putK kvs name m)) σ σ') (hz : kvs.length < 1000) (h : Q' σ') : SETA prog w h₀ d σ name (.ref x) m Q' := by
  intro A s Φ F E Q vs N R kk
  obtain ⟨u, v, rfl, r1, rv⟩ := R.two
  (first | obtain ⟨_, rfl⟩ := r1.inv_int | obtain rfl := r1.inv_ref | obtain rfl := r1.inv_none | obtain rfl := r1.inv_bool | cases r1)
  obtain ⟨es, n, hx, hdx, hz1, hes⟩ := N.rel.res _ (List.mem_append_left _ U.mem)
  have X : K.In s.heap := X₀.keeps N.heap
  have hlen := hes.len
  have hsome : (getL name es).isSome = true := by
    cases e : getK kvs name with
    | none => rw [(hes.get (x := name)).1 e]; rfl
    | some m' => obtain ⟨v', hl, _⟩ := (hes.get (x := name)).2 m' e; rw [hl]; rfl
  show wpAny _ A (setAttr (.ref x) name v) Q E s
  have hpl := putL_length name (PyData.keyHash w.params name) (.str name (s.toks + 1)) v es
  have hne : x ≠ dx := by
    have nd := N.rel.nd
    obtain ⟨τ, p, _⟩ := U.perm
    have nd2 := (foot_perm (p.append_right F)).nodup_iff.mp nd
    rw [List.cons_append, foot_cons] at nd2
    have := (List.nodup_append.mp nd2).1
    simpa [Res.addrs] using this
  refine set_plain X (inst_at hx hdx) CK.sa (osa_exact (s := { s with toks := s.toks + 1 }) X CK hx hdx ht hsome (by show (putL name _ (.str name (s.toks + 1)) v es).length ≤ 1000; lia) ?_)
  have hnew := Heap.get?_update_self (Obj.putName name (PyData.keyHash w.params name) (.str name (s.toks + 1)) v) hdx (by rw [putName_dict]; rfl)
  rw [putName_dict] at hnew
  have hx' : (s.heap.update dx (Obj.putName name (PyData.keyHash w.params name) (.str name (s.toks + 1)) v)).get? x = some ⟨.ref C, some dx, .plain, #[]⟩ := (Heap.get?_update_other _ _ (Ne.symm hne)).trans hx
  refine kk () () σ' Φ _ _ (.refl Φ) ?_ trivial h
  refine N.rel.upd U (fun b o hb e => (Heap.get?_update_other _ _ (fun q => hb (by rw [← q]; exact .tail _ (.head _)))).trans e) rfl (fun b hb => ?_) ⟨_, _, hx', hnew, by lia, hes.put rv⟩
  simp [Res.addrs] at hb
  rcases hb with rfl | rfl
  · exact ⟨_, hx'⟩
  · exact ⟨_, hnew⟩
theorem AS_attr {o : Expr} {v : MV} {P : Loc → List Res → Prop} (h : EV prog w h₀ d (fs env γ ρ) σ o (fun ov σ1 => SETA prog w h₀ d σ1 name ov v (fun σ2 => P ρ σ2))) : AS prog w h₀ d env γ ρ σ (.Attribute o name pos) v P := by
  intro A s Φ F E Q vs N R kk
  obtain ⟨u, rfl, rx⟩ := R.one
  show wpAny _ A (assign (.Attribute o name pos) env u) Q E s
  refine kas_attr (h A s Φ F E _ [] N .nil ?_)
  rintro ov mo σ1 Φ1 h1 tk1 le1 rel1 rep1 ⟨τ, rfl, h⟩
  refine h A { s with heap := h1, toks := tk1 } Φ1 (fr1 env γ ρ :: F) E _ [ov, u] (N.next le1 (rel1.perm permF)) (.cons rep1 (.cons (rx.mono le1) .nil)) ?_
  rintro _ _ σ3 Φ3 h3 tk3 le3 rel3 _ hp
  exact kk () () _ Φ3 h3 tk3 (le1.trans le3) (rel3.perm permF.symm) trivial ⟨ρ, σ3, rfl, hp⟩
/-- self.at += e -/
theorem X1_aug_attr {PX : FL → Loc → List Res → Prop} {o e : Expr} {op : Operator} (X₀ : K.In h₀) (CK : ClsK K C) (hf : findIn K (.ref C) name = some none)
    (h : EV prog w h₀ d (fs env γ ρ) σ o (fun ov σ1 => ov = .ref x ∧ .inst x dx C kvs ∈ σ1 ∧ getK kvs name = some m ∧ (∀ u, m ≠ .ext u) ∧
      EV prog w h₀ d (fs env γ ρ) σ1 e (fun u σ2 => INP prog w h₀ d σ2 op m u (fun r σ3 => SETA prog w h₀ d σ3 name (.ref x) r (fun σ4 => PX .next ρ σ4))))) : X1 prog w h₀ d env γ ρ σ (.AugAssign (.Attribute o name npos) op e pos) PX := by
  intro A s Φ F E Q vs N R kk
  refine wpAny_AugAssign_AttributeAny (h A s Φ F _ _ [] N .nil ?_)
  rintro v ov σ1 Φ1 h1 tk1 le1 rel1 rep1 ⟨τ, rfl, rfl, hm, hg, hne, h⟩
  (first | obtain ⟨_, rfl⟩ := rep1.inv_int | obtain rfl := rep1.inv_ref | obtain rfl := rep1.inv_none | obtain rfl := rep1.inv_bool | cases rep1)
  obtain ⟨es, n, hx, hdx, hz, hes⟩ := rel1.res _ (List.mem_append_left _ (List.mem_cons_of_mem _ hm))
  obtain ⟨v, hl, rv⟩ := (hes.get (x := name)).2 m hg
  have X : K.In h1 := X₀.keeps fun a o e => rel1.le _ _ (le1 _ _ (N.base _ _ e))
  refine get_value (s := { s with heap := h1, toks := tk1 }) X (inst_at hx hdx) CK.ga (findObj_own CK.dict hf rfl (by rw [lookIn_dict]; exact hl)) (rep_handed rv hne) ?_
  refine h A { s with heap := h1, toks := tk1 + 1 } Φ1 F _ _ [] (N.next le1 rel1) .nil ?_
  rintro u mu σ2 Φ2 h2 tk2 le2 rel2 rep2 ⟨τ2, rfl, h⟩
  refine h A { s with heap := h2, toks := tk2 } Φ2 (fr1 env γ ρ :: F) _ _ [v, u] (N.next (le1.trans le2) (rel2.perm permF)) (.cons (rv.mono le2) (.cons rep2 .nil)) ?_
  rintro r mr σ3 Φ3 h3 tk3 le3 rel3 rep3 h
  refine h A { s with heap := h3, toks := tk3 } Φ3 (fr1 env γ ρ :: F) _ _ [.ref x, r] ⟨N.room, fun a o e => le3 a o (le2 a o (le1 a o (N.base a o e))), rel3⟩ (.cons (.ref x) (.cons rep3 .nil)) ?_
  rintro _ _ σ4 Φ4 h4 tk4 le4 rel4 _ hp
  exact kk .next .next _ Φ4 h4 tk4 (le1.trans (le2.trans (le3.trans le4))) (rel4.perm permF.symm) .next ⟨ρ, σ4, rfl, hp⟩
/-- a new object: its __init__ is run -/
theorem CALL_cls {fI : Addr} {args : List MV} (X₀ : K.In h₀) (CK : ClsK K C) (hi : findIn K (.ref C) "__init__" = some (some (.ref fI))) (hf : typeIn K (.ref fI) = some (.type "function"))
    {fd : FuncData} {body : List Stmt} (H : FnIs h₀ fI fd) (hl : h₀.NoLimit) (hbody : fd.body = .stmts body) (ps rest : List Str) (γ : List (Str × MV))
    (hγ : ∀ p ∈ γ, GlobF h₀.get? p.1 p.2) (hlen : args.length + 1 = ps.length) (hb : ∀ vs : List Value, vs.length = ps.length → bindArgs fd ⟨vs, []⟩ = pure (ps.zip vs))
    (ok : okFrame fd.scope.names (ps ++ rest) (γ.map (·.1)) = true)
    (h : ∀ x dx L, XV prog w h₀ d (callEnvC fd L fI) γ (loc0 ps (.ref x :: args) rest) (.inst x dx C [] :: σ) body (fun fl _ σ' => retV fl = .none ∧ P (.ref x) σ'))
    (hco : fd.scope.isCoroutine = false := by rfl) (hgen : fd.scope.isGenerator = false := by rfl) (hk : fd.scope.kind = .function := by rfl) : CALL prog w h₀ (d + 2) σ (.ext (.ref C)) args P := by
  intro A s Φ F E Q vs N R kk
  cases R with | cons r0 R => ?_
  rename_i fv vals
  cases r0.ext_inv
  show wpAny _ A (call (.ref C) vals) Q E s
  have X : K.In s.heap := X₀.keeps N.heap
  obtain ⟨hp, g, dd, t, os⟩ := s
  have fr1' : hp.get? hp.objs.size = none := fresh_get (Nat.le_refl _)
  have fr2' : hp.get? (hp.objs.size + 1) = none := fresh_get (Nat.le_succ _)
  have g1 : ((hp.push emptyDict).push (instObj C hp.objs.size)).get? hp.objs.size = some emptyDict := Heap.get?_push_of_some _ (Heap.get?_push_size _ rfl)
  have g2 : ((hp.push emptyDict).push (instObj C hp.objs.size)).get? (hp.objs.size + 1) = some (instObj C hp.objs.size) := by
    have := Heap.get?_push_size (hp.push emptyDict) (o := instObj C hp.objs.size) rfl
    rwa [Heap.size_push] at this
  have k : ∀ b o, hp.get? b = some o → ((hp.push emptyDict).push (instObj C hp.objs.size)).get? b = some o := fun b o e => Heap.get?_push_of_some _ (Heap.get?_push_of_some _ e)
  have rel : Rel Φ ((.inst (hp.objs.size + 1) hp.objs.size C [] :: σ) ++ F) ((hp.push emptyDict).push (instObj C hp.objs.size)) := by
    refine N.rel.push_res (r := .inst (hp.objs.size + 1) hp.objs.size C []) k ?_ ?_ ?_ ⟨[], 0, g2, g1, Nat.zero_le _, .nil⟩
    · simp [Res.addrs]
    · intro a ha; simp [Res.addrs] at ha; rcases ha with rfl | rfl
      · exact fr2'
      · exact fr1'
    · intro a ha; simp [Res.addrs] at ha; rcases ha with rfl | rfl
      · exact ⟨_, g2⟩
      · exact ⟨_, g1⟩
  refine wpAny_call (make_core (makes_of X CK.make) (looks_findIn X hi) (fun self => bind_fn X self hf) (.inl rfl) ?_)
  have room : Room (A.under (.builtin "type.__call__" ⟨.ref C :: vals, []⟩)) (d + 1) := by
    refine ⟨N.room.hh, ?_, ?_, N.room.gd⟩
    · have := N.room.dep; show A.depth + 1 + (d + 1) ≤ _; lia
    · have := N.room.un; show A.units + 1 + 20 * (d + 1) ≤ _; lia
  refine code_fn (s := ⟨(hp.push emptyDict).push (instObj C hp.objs.size), g, dd, t, os⟩) (P := fun m σ' => m = .none ∧ P (.ref (hp.objs.size + 1)) σ') H hl hbody ps rest γ hγ (by simpa using hlen) hb ok (fun L => h (hp.objs.size + 1) hp.objs.size L) hco hgen hk ⟨room, N.base, rel⟩ (.cons (.ref _) R) ?_
  rintro v m σ' Φ' h' tk le rel' rep' ⟨rfl, hp⟩
  (first | obtain ⟨_, rfl⟩ := rep'.inv_int | obtain rfl := rep'.inv_ref | obtain rfl := rep'.inv_none | obtain rfl := rep'.inv_bool | cases rep')
  exact ⟨rfl, kk (.ref _) (.ref _) σ' Φ' h' tk le rel' (.ref _) hp⟩
end
end Mine
open PySem PySem.W PySem.Calls PyProof.Rows PySem.SeqAt
set_option Elab.async false
set_option maxRecDepth 100000
set_option linter.unusedVariables false
namespace Mine
/-- plain data: ints, bytes, tuples and lists of plain data -/
inductive Dat : Nat → MV → Prop
  | int (n : Nat) (i : Int) : Dat n (.int i)
  | bytes (n : Nat) (b : Array UInt8) : Dat n (.bytes b)
  | tup {n : Nat} {xs : List MV} : (∀ x ∈ xs, Dat n x) → Dat (n + 1) (.tup xs)
  | list {n : Nat} {xs : List MV} : (∀ x ∈ xs, Dat n x) → Dat (n + 1) (.list xs)
theorem eqAt_of_rc {A : Around} {s : Shared} {u v : Value} (hf : ∀ b t, u ≠ .float b t) (h : RcAt A s u v true) : EqAt A s u v true := fun prog w E Q hq => by
  unfold eqBool
  refine wpAny_holding ?_
  refine wpAny_ite_split (fun _ => ?_) (fun _ => ?_)
  · exact wpAny_bind (wpAny_rule (wpAny_pure hq))
  · cases u with
    | float b t => exact absurd rfl (hf b t)
    | _ => exact wpAny_bind (h prog w E _ (wpAny_truthy_bool hq))
theorem dat_nofloat {Φ : FMap} {n : Nat} {m : MV} {u : Value} (hd : Dat n m) (r : Rep Φ m u) : ∀ b t, u ≠ .float b t := by
  intro b t e
  subst e
  cases hd <;> (first | obtain ⟨_, rfl⟩ := r.inv_int | obtain rfl := r.inv_ref | obtain rfl := r.inv_none | obtain rfl := r.inv_bool | cases r)
theorem Reps.items {Φ : FMap} {xs : List MV} {us : List Value} (h : Reps Φ xs us) (j : Nat) (hj : j < us.length) : ∃ x ∈ xs, xs[j]? = some x ∧ Rep Φ x us[j] := by
  have hx : j < xs.length := by rw [← h.length]; exact hj
  obtain ⟨v, hv, r⟩ := h.get (List.getElem?_eq_getElem hx)
  rw [List.getElem?_eq_getElem hj] at hv
  exact ⟨xs[j], List.getElem_mem hx, List.getElem?_eq_getElem hx, by rw [Option.some.inj hv]; exact r⟩
theorem all_true (n : Nat) : (List.range n).all (fun _ => true) = true := by simp
theorem rc_dat {s : Shared} {Φ : FMap} (le : ∀ a o, Φ a = some o → s.heap.get? a = some o) : ∀ (n : Nat) {m : MV} {u v : Value} {A : Around}, Dat n m → Rep Φ m u → Rep Φ m v → A.units + n < cLine → RcAt A s u v true := by
  intro n
  induction n with
  | zero =>
    intro m u v A hd r1 r2 hu
    cases hd with
    | int _ i => (first | obtain ⟨_, rfl⟩ := r1.inv_int | obtain rfl := r1.inv_ref | obtain rfl := r1.inv_none | obtain rfl := r1.inv_bool | cases r1); (first | obtain ⟨_, rfl⟩ := r2.inv_int | obtain rfl := r2.inv_ref | obtain rfl := r2.inv_none | obtain rfl := r2.inv_bool | cases r2); rename_i t1 t2; have := RcAt.int_int (A := A) (s := s) i t1 i t2; rwa [beq_self_eq_true] at this
    | bytes _ b =>
      (first | obtain ⟨_, rfl⟩ := r1.inv_int | obtain rfl := r1.inv_ref | obtain rfl := r1.inv_none | obtain rfl := r1.inv_bool | cases r1); (first | obtain ⟨_, rfl⟩ := r2.inv_int | obtain rfl := r2.inv_ref | obtain rfl := r2.inv_none | obtain rfl := r2.inv_bool | cases r2)
      intro prog w E Q hq
      exact PySem.W.eq_bytes (by rw [beq_self_eq_true]; exact hq)
  | succ n ih =>
    intro m u v A hd r1 r2 hu
    have step : ∀ {xs : List MV} {us vs : List Value}, (∀ x ∈ xs, Dat n x) → Reps Φ xs us → Reps Φ xs vs → ∀ j (h1 : j < us.toArray.size) (h2 : j < vs.toArray.size), EqAt A.in1 s us.toArray[j] vs.toArray[j] true := by
      intro xs us vs hx rs1 rs2 j h1 h2
      obtain ⟨x, hx1, e1, rx1⟩ := rs1.items j (by simpa using h1)
      obtain ⟨y, hy1, e2, ry1⟩ := rs2.items j (by simpa using h2)
      rw [e1] at e2; cases e2
      have := eqAt_of_rc (dat_nofloat (hx x hx1) rx1) (ih (A := A.in1) (hx x hx1) rx1 ry1 (by show A.units + 1 + n < cLine; lia))
      simpa using this
    cases hd with
    | int _ i => (first | obtain ⟨_, rfl⟩ := r1.inv_int | obtain rfl := r1.inv_ref | obtain rfl := r1.inv_none | obtain rfl := r1.inv_bool | cases r1); (first | obtain ⟨_, rfl⟩ := r2.inv_int | obtain rfl := r2.inv_ref | obtain rfl := r2.inv_none | obtain rfl := r2.inv_bool | cases r2); rename_i t1 t2; have := RcAt.int_int (A := A) (s := s) i t1 i t2; rwa [beq_self_eq_true] at this
    | bytes _ b =>
      (first | obtain ⟨_, rfl⟩ := r1.inv_int | obtain rfl := r1.inv_ref | obtain rfl := r1.inv_none | obtain rfl := r1.inv_bool | cases r1); (first | obtain ⟨_, rfl⟩ := r2.inv_int | obtain rfl := r2.inv_ref | obtain rfl := r2.inv_none | obtain rfl := r2.inv_bool | cases r2)
      intro prog w E Q hq
      exact PySem.W.eq_bytes (by rw [beq_self_eq_true]; exact hq)
    | tup hx =>
      obtain ⟨a, us, rfl, ht1, hz1, rs1⟩ := r1.tup_inv le
      obtain ⟨b, vs, rfl, ht2, hz2, rs2⟩ := r2.tup_inv le
      have := RcAt.tuples (A := A) (e := fun _ => true) ht1 ht2 (by lia) (step hx rs1 rs2)
      have e : (us.toArray.size == vs.toArray.size) = true := by simp [rs1.length, rs2.length]
      rwa [all_true, e] at this
    | list hx =>
      have rel : Rel Φ ([] ++ []) s.heap := ⟨le, List.nodup_nil, (fun _ h => nomatch h), (fun _ h => nomatch h), (fun _ h => nomatch h)⟩
      obtain ⟨a, us, rfl, ht1, hz1, rs1⟩ := IsL.real (σ := []) (F := []) .frozen rel r1
      obtain ⟨b, vs, rfl, ht2, hz2, rs2⟩ := IsL.real (σ := []) (F := []) .frozen rel r2
      have := RcAt.lists (A := A) (e := fun _ => true) ht1 ht2 (by simp [rs1.length, rs2.length]) (by lia) (step hx rs1 rs2)
      rwa [all_true] at this
section
variable {prog : Program} {w : World} {h₀ : Heap} {d : Nat} {σ : List Res} {m : MV} {PB : Bool → List Res → Prop}
theorem CMP_eq_dat {n : Nat} (hd : Dat n m) (hn : n ≤ 20) (h : PB true σ) (hd1 : 2 ≤ d := by lia) : CMP prog w h₀ d σ .Eq m m PB := by
  intro A s Φ F E Q vs N R kk
  obtain ⟨u, v, rfl, r1, r2⟩ := R.two
  have hu := N.room.un
  exact rc_dat N.rel.le n hd r1 r2 (by lia) prog w E Q (kk _ true σ Φ s.heap s.toks (.refl Φ) N.rel rfl h)
theorem CMP_ne_tup {n : Nat} {xs : List MV} (hd : ∀ x ∈ xs, Dat n x) (hn : n ≤ 20) (h : PB false σ) (hd1 : 2 ≤ d := by lia) : CMP prog w h₀ d σ .NotEq (.tup xs) (.tup xs) PB := by
  intro A s Φ F E Q vs N R kk
  obtain ⟨u, v, rfl, r1, r2⟩ := R.two
  have hu := N.room.un
  obtain ⟨a, us, rfl, ht1, hz1, rs1⟩ := r1.tup_inv N.rel.le
  obtain ⟨b, vs, rfl, ht2, hz2, rs2⟩ := r2.tup_inv N.rel.le
  have step : ∀ j (h1 : j < us.toArray.size) (h2 : j < vs.toArray.size), EqAt A.in1 s us.toArray[j] vs.toArray[j] true := by
    intro j h1 h2
    obtain ⟨x, hx1, e1, rx1⟩ := rs1.items j (by simpa using h1)
    obtain ⟨y, hy1, e2, ry1⟩ := rs2.items j (by simpa using h2)
    rw [e1] at e2; cases e2
    have := eqAt_of_rc (dat_nofloat (hd x hx1) rx1) (rc_dat N.rel.le n (A := A.in1) (hd x hx1) rx1 ry1 (by show A.units + 1 + n < cLine; lia))
    simpa using this
  have := RcNeAt.tuples (A := A) (e := fun _ => true) ht1 ht2 (by lia) step
  have e : (us.toArray.size == vs.toArray.size) = true := by simp [rs1.length, rs2.length]
  rw [all_true, e] at this
  exact this prog w E Q (kk _ false σ Φ s.heap s.toks (.refl Φ) N.rel rfl h)
theorem SUB_bytes {P : MV → List Res → Prop} {value slice : Expr} {b : Array UInt8} {i : Int} (h0 : 0 ≤ i) (h1 : i < b.size) (h : P (.int (b.toList.getD i.toNat 0).toNat) σ)
    (hs : ∀ o i, subscripted slice false o i = operate [o, i] (getItem o i) := by intros; with_unfolding_all rfl) : SUB prog w h₀ d σ value slice (.bytes b) (.int i) P := by
  intro A s Φ F E Q vs N R kk
  obtain ⟨u, k, rfl, r1, r2⟩ := R.two
  (first | obtain ⟨_, rfl⟩ := r2.inv_int | obtain rfl := r2.inv_ref | obtain rfl := r2.inv_none | obtain rfl := r2.inv_bool | cases r2)
  rename_i ti
  cases r1 with
  | bytes _ t hz =>
    refine tail_any (typeIs_bytes s b t) FB.slot_bytes_getitem.lookup ?_ (hs _ _)
    have e : b = b.toList.toArray := by simp
    have := PySem.W.getItem_bytes (prog := prog) (w := w) (A := A) (E := E) (s := s) (t := t) (l := b.toList) (i := i) (Q := Q) (u := ti) (by unfold sizeLine at hz; simpa using (by lia : b.size ≤ 1099511627776)) h0 (by simpa using h1)
      (kk _ (.int _) σ Φ s.heap _ (.refl Φ) N.rel (.int _ _) h)
    rw [← e] at this
    exact this
end
end Mine
open PySem PySem.W PySem.Calls PyProof.Rows
set_option Elab.async false
set_option maxRecDepth 100000
set_option linter.unusedVariables false
namespace Mine
section
variable {prog : Program} {w : World} {h₀ : Heap} {d : Nat} {σ : List Res} {PB : Bool → List Res → Prop}
theorem CMP_in_pairs {D : Addr} {a b : Int} {xs : List (List Int × Addr × Value)} (hd : (D == sysModules) = false) (hD : ∀ h : Heap, (∀ a o, h₀.get? a = some o → h.get? a = some o) → h.DictOfH (tupleKind (intKind prog w)) D xs)
    (h : PB (atKey xs [a, b]).isSome σ) (hd1 : 2 ≤ d := by lia) : CMP prog w h₀ d σ .In (.tup [.int a, .int b]) (.ext (.ref D)) PB := by
  intro A s Φ F E Q vs N R kk
  obtain ⟨u, v, rfl, r1, r2⟩ := R.two
  cases r2.ext_inv
  have hu := N.room.un
  obtain ⟨t, us, rfl, ht1, hz1, rs1⟩ := r1.tup_inv N.rel.le
  obtain ⟨x, y, rfl, r3, r4⟩ := rs1.two
  (first | obtain ⟨_, rfl⟩ := r3.inv_int | obtain rfl := r3.inv_ref | obtain rfl := r3.inv_none | obtain rfl := r3.inv_bool | cases r3); (first | obtain ⟨_, rfl⟩ := r4.inv_int | obtain rfl := r4.inv_ref | obtain rfl := r4.inv_none | obtain rfl := r4.inv_bool | cases r4)
  refine wpAny_in_heap (knd := tupleKind (intKind prog w)) (k := [a, b]) (xs := xs) (by show A.units + 1 < cLine; lia) ?_ hd (hD s.heap N.heap) ?_
  · obtain ⟨o, ho, hc, n, hdt⟩ := ht1
    exact ⟨o, _, n, ho, hc, hdt, .cons (by simp [intKind, Value.isInt]) (.cons (by simp [intKind, Value.isInt]) .nil)⟩
  · exact kk _ _ σ Φ s.heap _ (.refl Φ) N.rel rfl h
end
end Mine
open PySem PySem.W PySem.Calls PyProof.Rows
set_option Elab.async false
set_option maxRecDepth 100000
set_option linter.unusedVariables false
noncomputable section
namespace Mine
open Mine.Hd
structure X0 (w : World) (h₀ : Heap) : Prop where
  K : (KL w.params).In h₀
  lim : h₀.NoLimit
noncomputable def fdOf (o : Obj) : FuncData := match o.data with | .func fd => fd | _ => { name := "", qualname := "", params := ⟨[], [], none, [], [], none, []⟩, body := .stmts [], scope := ⟨.module, [], false, false, []⟩, globals := 0, closure := [], defaults := .none, kwdefaults := .none, builtins := 0 }
noncomputable def esOf (o : Obj) : Array DictEntry := match o.data with | .dict es _ => es | _ => #[]
theorem X0.at {w : World} {h₀ : Heap} (X : X0 w h₀) {a : Addr} {o : Obj} (h : (KL w.params).lookup a = some o) : h₀.get? a = some o := X.K a o h
noncomputable def strKeysB (es : Array DictEntry) : Bool := es.toList.all fun e => match e.key with | .str _ _ => true | _ => false
theorem strKeys_of {es : Array DictEntry} (h : strKeysB es = true) : StrKeys es := by
  intro e he
  have := List.all_eq_true.mp h e (Array.mem_toList_iff.mpr he)
  cases hk : e.key with
  | str n t => exact ⟨n, t, rfl⟩
  | _ => rw [hk] at this; cases this
noncomputable def intKeysB (es : Array DictEntry) : Bool := es.toList.all fun e => match e.key with | .int k _ => e.hash == hashInt k | _ => false
theorem intKeys_ofB {es : Array DictEntry} (h : intKeysB es = true) : IntKeys es := by
  intro e he
  have := List.all_eq_true.mp h e (Array.mem_toList_iff.mpr he)
  cases hk : e.key with
  | int k t => rw [hk] at this; exact ⟨k, t, rfl, by simpa using this⟩
  | _ => rw [hk] at this; cases this
def es3 (P : Params) : Array DictEntry := esOf (o3_11 P)
def es0 (P : Params) : Array DictEntry := esOf (o0_0 P)
theorem at3 {w : World} {h₀ : Heap} (X : X0 w h₀) : h₀.get? mainGlobals = some (o3_11 w.params) := (X.at (a := 3) rfl).trans (by rw [q3])
theorem at0 {w : World} {h₀ : Heap} (X : X0 w h₀) : h₀.get? builtinsNs = some (o0_0 w.params) := (X.at (a := 0) rfl).trans (by rw [q0])
theorem sk3 (P : Params) : strKeysB (es3 P) = true := by kernel_rfl
theorem sk0 (P : Params) : strKeysB (es0 P) = true := by kernel_rfl
theorem ns3 {w : World} {h₀ : Heap} (X : X0 w h₀) : NsF h₀.get? mainGlobals (nsFind (es3 w.params)) := ⟨_, es3 w.params, _, at3 X, rfl, strKeys_of (sk3 _), fun _ => rfl⟩
theorem ns0 {w : World} {h₀ : Heap} (X : X0 w h₀) : NsF h₀.get? builtinsNs (nsFind (es0 w.params)) := ⟨_, es0 w.params, _, at0 X, rfl, strKeys_of (sk0 _), fun _ => rfl⟩
theorem glob_m {w : World} {h₀ : Heap} (X : X0 w h₀) {x : Str} {u : Value} {m : MV} (h : nsFind (es3 w.params) x = some u) (r : Rep h₀.get? m u) : GlobF h₀.get? x m := ⟨_, _, u, ns3 X, ns0 X, .inl h, r⟩
theorem glob_b {w : World} {h₀ : Heap} (X : X0 w h₀) {x : Str} {u : Value} {m : MV} (h : nsFind (es3 w.params) x = none) (h2 : nsFind (es0 w.params) x = some u) (r : Rep h₀.get? m u) : GlobF h₀.get? x m := ⟨_, _, u, ns3 X, ns0 X, .inr ⟨h, h2⟩, r⟩
end Mine
open PySem PySem.W PySem.Calls PyProof.Rows
set_option Elab.async false
set_option maxRecDepth 100000
set_option maxHeartbeats 4000000
set_option linter.unusedVariables false
noncomputable section
namespace Mine
open Mine.Hd
variable {prog : Program} {w : World} {h₀ : Heap} {d : Nat} {σ : List Res} {P : MV → List Res → Prop}
theorem len0 {l : List Value} (h : l.length = 0) : l = [] := List.eq_nil_of_length_eq_zero h
theorem lenS {l : List Value} {n : Nat} (h : l.length = n + 1) : ∃ a r, l = a :: r ∧ r.length = n := by
  cases l with
  | nil => cases h
  | cons a r => exact ⟨a, r, rfl, Nat.succ.inj h⟩
theorem len1 {l : List Value} (h : l.length = 1) : ∃ a, l = [a] := by obtain ⟨a, r, rfl, h'⟩ := lenS h; rw [len0 h']; exact ⟨a, rfl⟩
theorem len2 {l : List Value} (h : l.length = 2) : ∃ a b, l = [a, b] := by obtain ⟨a, r, rfl, h'⟩ := lenS h; obtain ⟨b, rfl⟩ := len1 h'; exact ⟨a, b, rfl⟩
theorem len3 {l : List Value} (h : l.length = 3) : ∃ a b c, l = [a, b, c] := by obtain ⟨a, r, rfl, h'⟩ := lenS h; obtain ⟨b, c, rfl⟩ := len2 h'; exact ⟨a, b, c, rfl⟩
theorem len4 {l : List Value} (h : l.length = 4) : ∃ a b c d, l = [a, b, c, d] := by obtain ⟨a, r, rfl, h'⟩ := lenS h; obtain ⟨b, c, d, rfl⟩ := len3 h'; exact ⟨a, b, c, d, rfl⟩
theorem len5 {l : List Value} (h : l.length = 5) : ∃ a b c d e, l = [a, b, c, d, e] := by obtain ⟨a, r, rfl, h'⟩ := lenS h; obtain ⟨b, c, d, e, rfl⟩ := len4 h'; exact ⟨a, b, c, d, e, rfl⟩
/- printed by wip/gen/genF1.py -/
-- op_sort: params ['op'] locals [] globals ['OP_SORT']
abbrev fd_op_sort (P : Params) : FuncData := fdOf (o148_0 P)
theorem fn_op_sort (X : X0 w h₀) : FnIs h₀ 148 (fd_op_sort w.params) := ⟨⟨_, ((X.at (a := 148) rfl).trans (by rw [q148])), rfl⟩, ⟨147, _, _, _, rfl, ((X.at (a := 147) rfl).trans (by rw [q147])), rfl, rfl⟩, rfl, rfl, rfl⟩
theorem bind_op_sort (P : Params) : ∀ vs : List Value, vs.length = 1 → bindArgs (fd_op_sort P) ⟨vs, []⟩ = pure ([(Str.ofString "op")].zip vs) := fun vs h => by obtain ⟨v0, rfl⟩ := len1 h; rfl
-- op_size: params ['op'] locals [] globals []
abbrev fd_op_size (P : Params) : FuncData := fdOf (o155_0 P)
theorem fn_op_size (X : X0 w h₀) : FnIs h₀ 155 (fd_op_size w.params) := ⟨⟨_, ((X.at (a := 155) rfl).trans (by rw [q155])), rfl⟩, ⟨154, _, _, _, rfl, ((X.at (a := 154) rfl).trans (by rw [q154])), rfl, rfl⟩, rfl, rfl, rfl⟩
theorem bind_op_size (P : Params) : ∀ vs : List Value, vs.length = 1 → bindArgs (fd_op_size P) ⟨vs, []⟩ = pure ([(Str.ofString "op")].zip vs) := fun vs h => by obtain ⟨v0, rfl⟩ := len1 h; rfl
-- is_branch: params ['op'] locals [] globals ['OP_SORT', 'SO_BRANCH']
abbrev fd_is_branch (P : Params) : FuncData := fdOf (o162_0 P)
theorem fn_is_branch (X : X0 w h₀) : FnIs h₀ 162 (fd_is_branch w.params) := ⟨⟨_, ((X.at (a := 162) rfl).trans (by rw [q162])), rfl⟩, ⟨161, _, _, _, rfl, ((X.at (a := 161) rfl).trans (by rw [q161])), rfl, rfl⟩, rfl, rfl, rfl⟩
theorem bind_is_branch (P : Params) : ∀ vs : List Value, vs.length = 1 → bindArgs (fd_is_branch P) ⟨vs, []⟩ = pure ([(Str.ofString "op")].zip vs) := fun vs h => by obtain ⟨v0, rfl⟩ := len1 h; rfl
-- targets: params ['ins'] locals [] globals ['OP_SWITCH', 'is_branch']
abbrev fd_targets (P : Params) : FuncData := fdOf (o169_0 P)
theorem fn_targets (X : X0 w h₀) : FnIs h₀ 169 (fd_targets w.params) := ⟨⟨_, ((X.at (a := 169) rfl).trans (by rw [q169])), rfl⟩, ⟨168, _, _, _, rfl, ((X.at (a := 168) rfl).trans (by rw [q168])), rfl, rfl⟩, rfl, rfl, rfl⟩
theorem bind_targets (P : Params) : ∀ vs : List Value, vs.length = 1 → bindArgs (fd_targets P) ⟨vs, []⟩ = pure ([(Str.ofString "ins")].zip vs) := fun vs h => by obtain ⟨v0, rfl⟩ := len1 h; rfl
-- prefix_goal: params ['op'] locals [] globals ['OP_CONSTRAINED', 'OP_CALLVIRT', 'OP_READONLY', 'OP_LDELEMA']
abbrev fd_prefix_goal (P : Params) : FuncData := fdOf (o176_0 P)
theorem fn_prefix_goal (X : X0 w h₀) : FnIs h₀ 176 (fd_prefix_goal w.params) := ⟨⟨_, ((X.at (a := 176) rfl).trans (by rw [q176])), rfl⟩, ⟨175, _, _, _, rfl, ((X.at (a := 175) rfl).trans (by rw [q175])), rfl, rfl⟩, rfl, rfl, rfl⟩
theorem bind_prefix_goal (P : Params) : ∀ vs : List Value, vs.length = 1 → bindArgs (fd_prefix_goal P) ⟨vs, []⟩ = pure ([(Str.ofString "op")].zip vs) := fun vs h => by obtain ⟨v0, rfl⟩ := len1 h; rfl
-- jump_octet: params ['op'] locals [] globals ['OP_LEAVE', 'OP_BR']
abbrev fd_jump_octet (P : Params) : FuncData := fdOf (o183_0 P)
theorem fn_jump_octet (X : X0 w h₀) : FnIs h₀ 183 (fd_jump_octet w.params) := ⟨⟨_, ((X.at (a := 183) rfl).trans (by rw [q183])), rfl⟩, ⟨182, _, _, _, rfl, ((X.at (a := 182) rfl).trans (by rw [q182])), rfl, rfl⟩, rfl, rfl, rfl⟩
theorem bind_jump_octet (P : Params) : ∀ vs : List Value, vs.length = 1 → bindArgs (fd_jump_octet P) ⟨vs, []⟩ = pure ([(Str.ofString "op")].zip vs) := fun vs h => by obtain ⟨v0, rfl⟩ := len1 h; rfl
-- short_form: params ['op', 'operand'] locals ['run', 'place'] globals ['SHORT_RUN', 'SF_FIXED', 'SHORT_BYTE', 'SF_U8', 'OP_LDC_I4', 'SF_I8', 'SHORT_ELEM']
abbrev fd_short_form (P : Params) : FuncData := fdOf (o190_0 P)
theorem fn_short_form (X : X0 w h₀) : FnIs h₀ 190 (fd_short_form w.params) := ⟨⟨_, ((X.at (a := 190) rfl).trans (by rw [q190])), rfl⟩, ⟨189, _, _, _, rfl, ((X.at (a := 189) rfl).trans (by rw [q189])), rfl, rfl⟩, rfl, rfl, rfl⟩
theorem bind_short_form (P : Params) : ∀ vs : List Value, vs.length = 2 → bindArgs (fd_short_form P) ⟨vs, []⟩ = pure ([(Str.ofString "op"), (Str.ofString "operand")].zip vs) := fun vs h => by obtain ⟨v0, v1, rfl⟩ := len2 h; rfl
-- Tokens.__init__: params ['self'] locals [] globals []
abbrev fd_Tokens___init__ (P : Params) : FuncData := fdOf (o204_0 P)
theorem fn_Tokens___init__ (X : X0 w h₀) : FnIs h₀ 204 (fd_Tokens___init__ w.params) := ⟨⟨_, ((X.at (a := 204) rfl).trans (by rw [q204])), rfl⟩, ⟨203, _, _, _, rfl, ((X.at (a := 203) rfl).trans (by rw [q203])), rfl, rfl⟩, rfl, rfl, rfl⟩
theorem bind_Tokens___init__ (P : Params) : ∀ vs : List Value, vs.length = 1 → bindArgs (fd_Tokens___init__ P) ⟨vs, []⟩ = pure ([(Str.ofString "self")].zip vs) := fun vs h => by obtain ⟨v0, rfl⟩ := len1 h; rfl
-- check_code: params ['code'] locals ['count', 'i', 'goal', 'wanted'] globals ['len', 'range', 'targets', 'BadCode', 'prefix_goal']
abbrev fd_check_code (P : Params) : FuncData := fdOf (o260_0 P)
theorem fn_check_code (X : X0 w h₀) : FnIs h₀ 260 (fd_check_code w.params) := ⟨⟨_, ((X.at (a := 260) rfl).trans (by rw [q260])), rfl⟩, ⟨259, _, _, _, rfl, ((X.at (a := 259) rfl).trans (by rw [q259])), rfl, rfl⟩, rfl, rfl, rfl⟩
theorem bind_check_code (P : Params) : ∀ vs : List Value, vs.length = 1 → bindArgs (fd_check_code P) ⟨vs, []⟩ = pure ([(Str.ofString "code")].zip vs) := fun vs h => by obtain ⟨v0, rfl⟩ := len1 h; rfl
-- il_check_index: params ['operand', 'i'] locals [] globals ['MOST_INDEX', 'BadCode']
abbrev fd_il_check_index (P : Params) : FuncData := fdOf (o267_0 P)
theorem fn_il_check_index (X : X0 w h₀) : FnIs h₀ 267 (fd_il_check_index w.params) := ⟨⟨_, ((X.at (a := 267) rfl).trans (by rw [q267])), rfl⟩, ⟨266, _, _, _, rfl, ((X.at (a := 266) rfl).trans (by rw [q266])), rfl, rfl⟩, rfl, rfl, rfl⟩
theorem bind_il_check_index (P : Params) : ∀ vs : List Value, vs.length = 2 → bindArgs (fd_il_check_index P) ⟨vs, []⟩ = pure ([(Str.ofString "operand"), (Str.ofString "i")].zip vs) := fun vs h => by obtain ⟨v0, v1, rfl⟩ := len2 h; rfl
-- check_signed: params ['operand', 'bits', 'i'] locals ['half'] globals ['BadCode']
abbrev fd_check_signed (P : Params) : FuncData := fdOf (o274_0 P)
theorem fn_check_signed (X : X0 w h₀) : FnIs h₀ 274 (fd_check_signed w.params) := ⟨⟨_, ((X.at (a := 274) rfl).trans (by rw [q274])), rfl⟩, ⟨273, _, _, _, rfl, ((X.at (a := 273) rfl).trans (by rw [q273])), rfl, rfl⟩, rfl, rfl, rfl⟩
theorem bind_check_signed (P : Params) : ∀ vs : List Value, vs.length = 3 → bindArgs (fd_check_signed P) ⟨vs, []⟩ = pure ([(Str.ofString "operand"), (Str.ofString "bits"), (Str.ofString "i")].zip vs) := fun vs h => by obtain ⟨v0, v1, v2, rfl⟩ := len3 h; rfl
-- form_of: params ['code', 'i', 'tokens'] locals ['op', 'operand', 'sort', 'octet'] globals ['op_sort', 'BadCode', 'SO_NONE', 'SO_BRANCH', 'jump_octet', 'SO_SWITCH', 'SO_ARG', 'SO_LOCAL', 'il_check_index', 'sized_form', 'SO_I4', 'check_signed', 'SO_I8', 'SO_KIND', 'short_form', 'token_at']
abbrev fd_form_of (P : Params) : FuncData := fdOf (o281_0 P)
theorem fn_form_of (X : X0 w h₀) : FnIs h₀ 281 (fd_form_of w.params) := ⟨⟨_, ((X.at (a := 281) rfl).trans (by rw [q281])), rfl⟩, ⟨280, _, _, _, rfl, ((X.at (a := 280) rfl).trans (by rw [q280])), rfl, rfl⟩, rfl, rfl, rfl⟩
theorem bind_form_of (P : Params) : ∀ vs : List Value, vs.length = 3 → bindArgs (fd_form_of P) ⟨vs, []⟩ = pure ([(Str.ofString "code"), (Str.ofString "i"), (Str.ofString "tokens")].zip vs) := fun vs h => by obtain ⟨v0, v1, v2, rfl⟩ := len3 h; rfl
-- sized_form: params ['op', 'operand', 'width'] locals ['octet', 'form'] globals ['short_form', 'SF_FIXED']
abbrev fd_sized_form (P : Params) : FuncData := fdOf (o288_0 P)
theorem fn_sized_form (X : X0 w h₀) : FnIs h₀ 288 (fd_sized_form w.params) := ⟨⟨_, ((X.at (a := 288) rfl).trans (by rw [q288])), rfl⟩, ⟨287, _, _, _, rfl, ((X.at (a := 287) rfl).trans (by rw [q287])), rfl, rfl⟩, rfl, rfl, rfl⟩
theorem bind_sized_form (P : Params) : ∀ vs : List Value, vs.length = 3 → bindArgs (fd_sized_form P) ⟨vs, []⟩ = pure ([(Str.ofString "op"), (Str.ofString "operand"), (Str.ofString "width")].zip vs) := fun vs h => by obtain ⟨v0, v1, v2, rfl⟩ := len3 h; rfl
-- form_size: params ['form', 'ins'] locals [] globals ['op_size', 'len']
abbrev fd_form_size (P : Params) : FuncData := fdOf (o295_0 P)
theorem fn_form_size (X : X0 w h₀) : FnIs h₀ 295 (fd_form_size w.params) := ⟨⟨_, ((X.at (a := 295) rfl).trans (by rw [q295])), rfl⟩, ⟨294, _, _, _, rfl, ((X.at (a := 294) rfl).trans (by rw [q294])), rfl, rfl⟩, rfl, rfl, rfl⟩
theorem bind_form_size (P : Params) : ∀ vs : List Value, vs.length = 2 → bindArgs (fd_form_size P) ⟨vs, []⟩ = pure ([(Str.ofString "form"), (Str.ofString "ins")].zip vs) := fun vs h => by obtain ⟨v0, v1, rfl⟩ := len2 h; rfl
-- offsets_of: params ['sizes'] locals ['out', 'size'] globals []
abbrev fd_offsets_of (P : Params) : FuncData := fdOf (o302_0 P)
theorem fn_offsets_of (X : X0 w h₀) : FnIs h₀ 302 (fd_offsets_of w.params) := ⟨⟨_, ((X.at (a := 302) rfl).trans (by rw [q302])), rfl⟩, ⟨301, _, _, _, rfl, ((X.at (a := 301) rfl).trans (by rw [q301])), rfl, rfl⟩, rfl, rfl, rfl⟩
theorem bind_offsets_of (P : Params) : ∀ vs : List Value, vs.length = 1 → bindArgs (fd_offsets_of P) ⟨vs, []⟩ = pure ([(Str.ofString "sizes")].zip vs) := fun vs h => by obtain ⟨v0, rfl⟩ := len1 h; rfl
-- too_far: params ['offsets', 'i', 'goal'] locals ['way'] globals []
abbrev fd_too_far (P : Params) : FuncData := fdOf (o309_0 P)
theorem fn_too_far (X : X0 w h₀) : FnIs h₀ 309 (fd_too_far w.params) := ⟨⟨_, ((X.at (a := 309) rfl).trans (by rw [q309])), rfl⟩, ⟨308, _, _, _, rfl, ((X.at (a := 308) rfl).trans (by rw [q308])), rfl, rfl⟩, rfl, rfl, rfl⟩
theorem bind_too_far (P : Params) : ∀ vs : List Value, vs.length = 3 → bindArgs (fd_too_far P) ⟨vs, []⟩ = pure ([(Str.ofString "offsets"), (Str.ofString "i"), (Str.ofString "goal")].zip vs) := fun vs h => by obtain ⟨v0, v1, v2, rfl⟩ := len3 h; rfl
-- il_settle: params ['code', 'forms', 'sizes'] locals ['offsets', 'turned', 'i'] globals ['offsets_of', 'range', 'len', 'is_branch', 'too_far', 'form_size']
abbrev fd_il_settle (P : Params) : FuncData := fdOf (o316_0 P)
theorem fn_il_settle (X : X0 w h₀) : FnIs h₀ 316 (fd_il_settle w.params) := ⟨⟨_, ((X.at (a := 316) rfl).trans (by rw [q316])), rfl⟩, ⟨315, _, _, _, rfl, ((X.at (a := 315) rfl).trans (by rw [q315])), rfl, rfl⟩, rfl, rfl, rfl⟩
theorem bind_il_settle (P : Params) : ∀ vs : List Value, vs.length = 3 → bindArgs (fd_il_settle P) ⟨vs, []⟩ = pure ([(Str.ofString "code"), (Str.ofString "forms"), (Str.ofString "sizes")].zip vs) := fun vs h => by obtain ⟨v0, v1, v2, rfl⟩ := len3 h; rfl
-- il_put_number: params ['out', 'n', 'width'] locals ['place'] globals ['range']
abbrev fd_il_put_number (P : Params) : FuncData := fdOf (o323_0 P)
theorem fn_il_put_number (X : X0 w h₀) : FnIs h₀ 323 (fd_il_put_number w.params) := ⟨⟨_, ((X.at (a := 323) rfl).trans (by rw [q323])), rfl⟩, ⟨322, _, _, _, rfl, ((X.at (a := 322) rfl).trans (by rw [q322])), rfl, rfl⟩, rfl, rfl, rfl⟩
theorem bind_il_put_number (P : Params) : ∀ vs : List Value, vs.length = 3 → bindArgs (fd_il_put_number P) ⟨vs, []⟩ = pure ([(Str.ofString "out"), (Str.ofString "n"), (Str.ofString "width")].zip vs) := fun vs h => by obtain ⟨v0, v1, v2, rfl⟩ := len3 h; rfl
-- put_head: params ['out', 'op'] locals [] globals ['TWO_OCTETS']
abbrev fd_put_head (P : Params) : FuncData := fdOf (o330_0 P)
theorem fn_put_head (X : X0 w h₀) : FnIs h₀ 330 (fd_put_head w.params) := ⟨⟨_, ((X.at (a := 330) rfl).trans (by rw [q330])), rfl⟩, ⟨329, _, _, _, rfl, ((X.at (a := 329) rfl).trans (by rw [q329])), rfl, rfl⟩, rfl, rfl, rfl⟩
theorem bind_put_head (P : Params) : ∀ vs : List Value, vs.length = 2 → bindArgs (fd_put_head P) ⟨vs, []⟩ = pure ([(Str.ofString "out"), (Str.ofString "op")].zip vs) := fun vs h => by obtain ⟨v0, v1, rfl⟩ := len2 h; rfl
-- put_form: params ['out', 'form', 'ins', 'offsets', 'i'] locals ['goal'] globals ['put_head', 'il_put_number', 'len', 'is_branch']
abbrev fd_put_form (P : Params) : FuncData := fdOf (o337_0 P)
theorem fn_put_form (X : X0 w h₀) : FnIs h₀ 337 (fd_put_form w.params) := ⟨⟨_, ((X.at (a := 337) rfl).trans (by rw [q337])), rfl⟩, ⟨336, _, _, _, rfl, ((X.at (a := 336) rfl).trans (by rw [q336])), rfl, rfl⟩, rfl, rfl, rfl⟩
theorem bind_put_form (P : Params) : ∀ vs : List Value, vs.length = 5 → bindArgs (fd_put_form P) ⟨vs, []⟩ = pure ([(Str.ofString "out"), (Str.ofString "form"), (Str.ofString "ins"), (Str.ofString "offsets"), (Str.ofString "i")].zip vs) := fun vs h => by obtain ⟨v0, v1, v2, v3, v4, rfl⟩ := len5 h; rfl
-- encode: params ['code', 'tokens'] locals ['forms', 'sizes', 'i', 'form', 'offsets', 'out'] globals ['check_code', 'range', 'len', 'form_of', 'form_size', 'il_settle', 'bytearray', 'put_form', 'bytes']
abbrev fd_encode (P : Params) : FuncData := fdOf (o344_0 P)
theorem fn_encode (X : X0 w h₀) : FnIs h₀ 344 (fd_encode w.params) := ⟨⟨_, ((X.at (a := 344) rfl).trans (by rw [q344])), rfl⟩, ⟨343, _, _, _, rfl, ((X.at (a := 343) rfl).trans (by rw [q343])), rfl, rfl⟩, rfl, rfl, rfl⟩
theorem bind_encode (P : Params) : ∀ vs : List Value, vs.length = 2 → bindArgs (fd_encode P) ⟨vs, []⟩ = pure ([(Str.ofString "code"), (Str.ofString "tokens")].zip vs) := fun vs h => by obtain ⟨v0, v1, rfl⟩ := len2 h; rfl
-- CodeIn.__init__: params ['self', 'data'] locals [] globals []
abbrev fd_CodeIn___init__ (P : Params) : FuncData := fdOf (o358_0 P)
theorem fn_CodeIn___init__ (X : X0 w h₀) : FnIs h₀ 358 (fd_CodeIn___init__ w.params) := ⟨⟨_, ((X.at (a := 358) rfl).trans (by rw [q358])), rfl⟩, ⟨357, _, _, _, rfl, ((X.at (a := 357) rfl).trans (by rw [q357])), rfl, rfl⟩, rfl, rfl, rfl⟩
theorem bind_CodeIn___init__ (P : Params) : ∀ vs : List Value, vs.length = 2 → bindArgs (fd_CodeIn___init__ P) ⟨vs, []⟩ = pure ([(Str.ofString "self"), (Str.ofString "data")].zip vs) := fun vs h => by obtain ⟨v0, v1, rfl⟩ := len2 h; rfl
-- CodeIn.number: params ['self', 'width'] locals ['n', 'place'] globals ['len', 'BadCode', 'range']
abbrev fd_CodeIn_number (P : Params) : FuncData := fdOf (o365_0 P)
theorem fn_CodeIn_number (X : X0 w h₀) : FnIs h₀ 365 (fd_CodeIn_number w.params) := ⟨⟨_, ((X.at (a := 365) rfl).trans (by rw [q365])), rfl⟩, ⟨364, _, _, _, rfl, ((X.at (a := 364) rfl).trans (by rw [q364])), rfl, rfl⟩, rfl, rfl, rfl⟩
theorem bind_CodeIn_number (P : Params) : ∀ vs : List Value, vs.length = 2 → bindArgs (fd_CodeIn_number P) ⟨vs, []⟩ = pure ([(Str.ofString "self"), (Str.ofString "width")].zip vs) := fun vs h => by obtain ⟨v0, v1, rfl⟩ := len2 h; rfl
-- CodeIn.signed: params ['self', 'width'] locals ['n'] globals []
abbrev fd_CodeIn_signed (P : Params) : FuncData := fdOf (o372_0 P)
theorem fn_CodeIn_signed (X : X0 w h₀) : FnIs h₀ 372 (fd_CodeIn_signed w.params) := ⟨⟨_, ((X.at (a := 372) rfl).trans (by rw [q372])), rfl⟩, ⟨371, _, _, _, rfl, ((X.at (a := 371) rfl).trans (by rw [q371])), rfl, rfl⟩, rfl, rfl, rfl⟩
theorem bind_CodeIn_signed (P : Params) : ∀ vs : List Value, vs.length = 2 → bindArgs (fd_CodeIn_signed P) ⟨vs, []⟩ = pure ([(Str.ofString "self"), (Str.ofString "width")].zip vs) := fun vs h => by obtain ⟨v0, v1, rfl⟩ := len2 h; rfl
-- il_read_ins: params ['inp', 'tokens'] locals ['at', 'octet', 'op'] globals ['TWO_OCTETS', 'OP_SORT', 'BadCode', 'il_read_operand', 'SHORT', 'il_read_short']
abbrev fd_il_read_ins (P : Params) : FuncData := fdOf (o386_0 P)
theorem fn_il_read_ins (X : X0 w h₀) : FnIs h₀ 386 (fd_il_read_ins w.params) := ⟨⟨_, ((X.at (a := 386) rfl).trans (by rw [q386])), rfl⟩, ⟨385, _, _, _, rfl, ((X.at (a := 385) rfl).trans (by rw [q385])), rfl, rfl⟩, rfl, rfl, rfl⟩
theorem bind_il_read_ins (P : Params) : ∀ vs : List Value, vs.length = 2 → bindArgs (fd_il_read_ins P) ⟨vs, []⟩ = pure ([(Str.ofString "inp"), (Str.ofString "tokens")].zip vs) := fun vs h => by obtain ⟨v0, v1, rfl⟩ := len2 h; rfl
-- il_read_short: params ['inp', 'row'] locals ['way'] globals ['SF_FIXED', 'SF_U8', 'SF_I8']
abbrev fd_il_read_short (P : Params) : FuncData := fdOf (o393_0 P)
theorem fn_il_read_short (X : X0 w h₀) : FnIs h₀ 393 (fd_il_read_short w.params) := ⟨⟨_, ((X.at (a := 393) rfl).trans (by rw [q393])), rfl⟩, ⟨392, _, _, _, rfl, ((X.at (a := 392) rfl).trans (by rw [q392])), rfl, rfl⟩, rfl, rfl, rfl⟩
theorem bind_il_read_short (P : Params) : ∀ vs : List Value, vs.length = 2 → bindArgs (fd_il_read_short P) ⟨vs, []⟩ = pure ([(Str.ofString "inp"), (Str.ofString "row")].zip vs) := fun vs h => by obtain ⟨v0, v1, rfl⟩ := len2 h; rfl
-- il_read_operand: params ['inp', 'op', 'at', 'tokens'] locals ['sort', 'way', 'place'] globals ['OP_SORT', 'SO_NONE', 'SO_BRANCH', 'SO_SWITCH', 'read_switch', 'SO_ARG', 'SO_LOCAL', 'MOST_INDEX', 'BadCode', 'SO_I4', 'SO_I8']
abbrev fd_il_read_operand (P : Params) : FuncData := fdOf (o400_0 P)
theorem fn_il_read_operand (X : X0 w h₀) : FnIs h₀ 400 (fd_il_read_operand w.params) := ⟨⟨_, ((X.at (a := 400) rfl).trans (by rw [q400])), rfl⟩, ⟨399, _, _, _, rfl, ((X.at (a := 399) rfl).trans (by rw [q399])), rfl, rfl⟩, rfl, rfl, rfl⟩
theorem bind_il_read_operand (P : Params) : ∀ vs : List Value, vs.length = 4 → bindArgs (fd_il_read_operand P) ⟨vs, []⟩ = pure ([(Str.ofString "inp"), (Str.ofString "op"), (Str.ofString "at"), (Str.ofString "tokens")].zip vs) := fun vs h => by obtain ⟨v0, v1, v2, v3, rfl⟩ := len4 h; rfl
-- read_switch: params ['inp'] locals ['count', 'end', 'out', 'place'] globals ['len', 'BadCode', 'range', 'tuple']
abbrev fd_read_switch (P : Params) : FuncData := fdOf (o407_0 P)
theorem fn_read_switch (X : X0 w h₀) : FnIs h₀ 407 (fd_read_switch w.params) := ⟨⟨_, ((X.at (a := 407) rfl).trans (by rw [q407])), rfl⟩, ⟨406, _, _, _, rfl, ((X.at (a := 406) rfl).trans (by rw [q406])), rfl, rfl⟩, rfl, rfl, rfl⟩
theorem bind_read_switch (P : Params) : ∀ vs : List Value, vs.length = 1 → bindArgs (fd_read_switch P) ⟨vs, []⟩ = pure ([(Str.ofString "inp")].zip vs) := fun vs h => by obtain ⟨v0, rfl⟩ := len1 h; rfl
-- places_of: params ['offsets'] locals ['out', 'i'] globals ['range', 'len']
abbrev fd_places_of (P : Params) : FuncData := fdOf (o414_0 P)
theorem fn_places_of (X : X0 w h₀) : FnIs h₀ 414 (fd_places_of w.params) := ⟨⟨_, ((X.at (a := 414) rfl).trans (by rw [q414])), rfl⟩, ⟨413, _, _, _, rfl, ((X.at (a := 413) rfl).trans (by rw [q413])), rfl, rfl⟩, rfl, rfl, rfl⟩
theorem bind_places_of (P : Params) : ∀ vs : List Value, vs.length = 1 → bindArgs (fd_places_of P) ⟨vs, []⟩ = pure ([(Str.ofString "offsets")].zip vs) := fun vs h => by obtain ⟨v0, rfl⟩ := len1 h; rfl
-- goal_at: params ['places', 'offset', 'i'] locals [] globals ['BadCode']
abbrev fd_goal_at (P : Params) : FuncData := fdOf (o421_0 P)
theorem fn_goal_at (X : X0 w h₀) : FnIs h₀ 421 (fd_goal_at w.params) := ⟨⟨_, ((X.at (a := 421) rfl).trans (by rw [q421])), rfl⟩, ⟨420, _, _, _, rfl, ((X.at (a := 420) rfl).trans (by rw [q420])), rfl, rfl⟩, rfl, rfl, rfl⟩
theorem bind_goal_at (P : Params) : ∀ vs : List Value, vs.length = 3 → bindArgs (fd_goal_at P) ⟨vs, []⟩ = pure ([(Str.ofString "places"), (Str.ofString "offset"), (Str.ofString "i")].zip vs) := fun vs h => by obtain ⟨v0, v1, v2, rfl⟩ := len3 h; rfl
-- place_targets: params ['ins', 'places', 'i'] locals ['out', 'offset'] globals ['OP_SWITCH', 'goal_at', 'tuple', 'is_branch']
abbrev fd_place_targets (P : Params) : FuncData := fdOf (o428_0 P)
theorem fn_place_targets (X : X0 w h₀) : FnIs h₀ 428 (fd_place_targets w.params) := ⟨⟨_, ((X.at (a := 428) rfl).trans (by rw [q428])), rfl⟩, ⟨427, _, _, _, rfl, ((X.at (a := 427) rfl).trans (by rw [q427])), rfl, rfl⟩, rfl, rfl, rfl⟩
theorem bind_place_targets (P : Params) : ∀ vs : List Value, vs.length = 3 → bindArgs (fd_place_targets P) ⟨vs, []⟩ = pure ([(Str.ofString "ins"), (Str.ofString "places"), (Str.ofString "i")].zip vs) := fun vs h => by obtain ⟨v0, v1, v2, rfl⟩ := len3 h; rfl
-- decode: params ['octets', 'tokens'] locals ['inp', 'rows', 'offsets', 'places', 'code', 'i'] globals ['CodeIn', 'len', 'il_read_ins', 'places_of', 'range', 'place_targets', 'check_code']
abbrev fd_decode (P : Params) : FuncData := fdOf (o435_0 P)
theorem fn_decode (X : X0 w h₀) : FnIs h₀ 435 (fd_decode w.params) := ⟨⟨_, ((X.at (a := 435) rfl).trans (by rw [q435])), rfl⟩, ⟨434, _, _, _, rfl, ((X.at (a := 434) rfl).trans (by rw [q434])), rfl, rfl⟩, rfl, rfl, rfl⟩
theorem bind_decode (P : Params) : ∀ vs : List Value, vs.length = 2 → bindArgs (fd_decode P) ⟨vs, []⟩ = pure ([(Str.ofString "octets"), (Str.ofString "tokens")].zip vs) := fun vs h => by obtain ⟨v0, v1, rfl⟩ := len2 h; rfl
-- _law_draw: params ['nums', 'at', 'n'] locals ['i', 'k'] globals ['len']
abbrev fd__law_draw (P : Params) : FuncData := fdOf (o442_0 P)
theorem fn__law_draw (X : X0 w h₀) : FnIs h₀ 442 (fd__law_draw w.params) := ⟨⟨_, ((X.at (a := 442) rfl).trans (by rw [q442])), rfl⟩, ⟨441, _, _, _, rfl, ((X.at (a := 441) rfl).trans (by rw [q441])), rfl, rfl⟩, rfl, rfl, rfl⟩
theorem bind__law_draw (P : Params) : ∀ vs : List Value, vs.length = 3 → bindArgs (fd__law_draw P) ⟨vs, []⟩ = pure ([(Str.ofString "nums"), (Str.ofString "at"), (Str.ofString "n")].zip vs) := fun vs h => by obtain ⟨v0, v1, v2, rfl⟩ := len3 h; rfl
-- _law_little: params ['n', 'width'] locals [] globals ['range']
abbrev fd__law_little (P : Params) : FuncData := fdOf (o447_0 P)
theorem fn__law_little (X : X0 w h₀) : FnIs h₀ 447 (fd__law_little w.params) := ⟨⟨_, ((X.at (a := 447) rfl).trans (by rw [q447])), rfl⟩, ⟨446, _, _, _, rfl, ((X.at (a := 446) rfl).trans (by rw [q446])), rfl, rfl⟩, rfl, rfl, rfl⟩
theorem bind__law_little (P : Params) : ∀ vs : List Value, vs.length = 2 → bindArgs (fd__law_little P) ⟨vs, []⟩ = pure ([(Str.ofString "n"), (Str.ofString "width")].zip vs) := fun vs h => by obtain ⟨v0, v1, rfl⟩ := len2 h; rfl
-- _law_fill: params ['size', 'v'] locals ['rows'] globals []
abbrev fd__law_fill (P : Params) : FuncData := fdOf (o454_0 P)
theorem fn__law_fill (X : X0 w h₀) : FnIs h₀ 454 (fd__law_fill w.params) := ⟨⟨_, ((X.at (a := 454) rfl).trans (by rw [q454])), rfl⟩, ⟨453, _, _, _, rfl, ((X.at (a := 453) rfl).trans (by rw [q453])), rfl, rfl⟩, rfl, rfl, rfl⟩
theorem bind__law_fill (P : Params) : ∀ vs : List Value, vs.length = 2 → bindArgs (fd__law_fill P) ⟨vs, []⟩ = pure ([(Str.ofString "size"), (Str.ofString "v")].zip vs) := fun vs h => by obtain ⟨v0, v1, rfl⟩ := len2 h; rfl
-- _law_ladder: params ['nums', 'at', 'size'] locals ['k', 'gap', 'sides', 'spare', 'ops', 'r', 'op', 'q'] globals ['_law_draw', 'range']
abbrev fd__law_ladder (P : Params) : FuncData := fdOf (o461_0 P)
theorem fn__law_ladder (X : X0 w h₀) : FnIs h₀ 461 (fd__law_ladder w.params) := ⟨⟨_, ((X.at (a := 461) rfl).trans (by rw [q461])), rfl⟩, ⟨460, _, _, _, rfl, ((X.at (a := 460) rfl).trans (by rw [q460])), rfl, rfl⟩, rfl, rfl, rfl⟩
theorem bind__law_ladder (P : Params) : ∀ vs : List Value, vs.length = 3 → bindArgs (fd__law_ladder P) ⟨vs, []⟩ = pure ([(Str.ofString "nums"), (Str.ofString "at"), (Str.ofString "size")].zip vs) := fun vs h => by obtain ⟨v0, v1, v2, rfl⟩ := len3 h; rfl
-- _law_grown: params ['sides', 'spare'] locals ['k', 'grown', 'was', 'r', 'pushes'] globals ['len', 'sum', 'range']
abbrev fd__law_grown (P : Params) : FuncData := fdOf (o466_0 P)
theorem fn__law_grown (X : X0 w h₀) : FnIs h₀ 466 (fd__law_grown w.params) := ⟨⟨_, ((X.at (a := 466) rfl).trans (by rw [q466])), rfl⟩, ⟨465, _, _, _, rfl, ((X.at (a := 465) rfl).trans (by rw [q465])), rfl, rfl⟩, rfl, rfl, rfl⟩
theorem bind__law_grown (P : Params) : ∀ vs : List Value, vs.length = 2 → bindArgs (fd__law_grown P) ⟨vs, []⟩ = pure ([(Str.ofString "sides"), (Str.ofString "spare")].zip vs) := fun vs h => by obtain ⟨v0, v1, rfl⟩ := len2 h; rfl
-- _law_goal: params ['sides', 'spare', 'gap', 'r'] locals ['same', 'other'] globals ['len', 'range']
abbrev fd__law_goal (P : Params) : FuncData := fdOf (o471_0 P)
theorem fn__law_goal (X : X0 w h₀) : FnIs h₀ 471 (fd__law_goal w.params) := ⟨⟨_, ((X.at (a := 471) rfl).trans (by rw [q471])), rfl⟩, ⟨470, _, _, _, rfl, ((X.at (a := 470) rfl).trans (by rw [q470])), rfl, rfl⟩, rfl, rfl, rfl⟩
theorem bind__law_goal (P : Params) : ∀ vs : List Value, vs.length = 4 → bindArgs (fd__law_goal P) ⟨vs, []⟩ = pure ([(Str.ofString "sides"), (Str.ofString "spare"), (Str.ofString "gap"), (Str.ofString "r")].zip vs) := fun vs h => by obtain ⟨v0, v1, v2, v3, rfl⟩ := len4 h; rfl
-- _law_zone: params ['goals', 'v'] locals ['rows', 'places', 'was', 'goal'] globals ['sorted', '_law_fill', 'len']
abbrev fd__law_zone (P : Params) : FuncData := fdOf (o478_0 P)
theorem fn__law_zone (X : X0 w h₀) : FnIs h₀ 478 (fd__law_zone w.params) := ⟨⟨_, ((X.at (a := 478) rfl).trans (by rw [q478])), rfl⟩, ⟨477, _, _, _, rfl, ((X.at (a := 477) rfl).trans (by rw [q477])), rfl, rfl⟩, rfl, rfl, rfl⟩
theorem bind__law_zone (P : Params) : ∀ vs : List Value, vs.length = 2 → bindArgs (fd__law_zone P) ⟨vs, []⟩ = pure ([(Str.ofString "goals"), (Str.ofString "v")].zip vs) := fun vs h => by obtain ⟨v0, v1, rfl⟩ := len2 h; rfl
-- _law_code: params ['nums', 'at', 'ladder'] locals ['sides', 'spare', 'ops', 'gap', 'k', 'goals', 'fores', 'backs', 'v', 'ahead', 'fore_at', 'far', 'far_at', 'w', 'rest', 'before', 'count', 'first', 'step', 'middle', 'beyond', 'code', 'ranks'] globals ['len', 'range', '_law_draw', '_law_zone', 'min', '_law_fill', 'tuple']
abbrev fd__law_code (P : Params) : FuncData := fdOf (o483_0 P)
theorem fn__law_code (X : X0 w h₀) : FnIs h₀ 483 (fd__law_code w.params) := ⟨⟨_, ((X.at (a := 483) rfl).trans (by rw [q483])), rfl⟩, ⟨482, _, _, _, rfl, ((X.at (a := 482) rfl).trans (by rw [q482])), rfl, rfl⟩, rfl, rfl, rfl⟩
theorem bind__law_code (P : Params) : ∀ vs : List Value, vs.length = 3 → bindArgs (fd__law_code P) ⟨vs, []⟩ = pure ([(Str.ofString "nums"), (Str.ofString "at"), (Str.ofString "ladder")].zip vs) := fun vs h => by obtain ⟨v0, v1, v2, rfl⟩ := len3 h; rfl
-- _law_plain: params ['op', 'n'] locals [] globals ['_law_little']
abbrev fd__law_plain (P : Params) : FuncData := fdOf (o490_0 P)
theorem fn__law_plain (X : X0 w h₀) : FnIs h₀ 490 (fd__law_plain w.params) := ⟨⟨_, ((X.at (a := 490) rfl).trans (by rw [q490])), rfl⟩, ⟨489, _, _, _, rfl, ((X.at (a := 489) rfl).trans (by rw [q489])), rfl, rfl⟩, rfl, rfl, rfl⟩
theorem bind__law_plain (P : Params) : ∀ vs : List Value, vs.length = 2 → bindArgs (fd__law_plain P) ⟨vs, []⟩ = pure ([(Str.ofString "op"), (Str.ofString "n")].zip vs) := fun vs h => by obtain ⟨v0, v1, rfl⟩ := len2 h; rfl
-- _law_lay: params ['code', 'ranks', 'longs'] locals ['offsets', 'i', 'op', 'n', 'size', 'octets', 'end', 'goal'] globals ['range', 'len', '_law_plain', '_law_little', 'bytes']
abbrev fd__law_lay (P : Params) : FuncData := fdOf (o497_0 P)
theorem fn__law_lay (X : X0 w h₀) : FnIs h₀ 497 (fd__law_lay w.params) := ⟨⟨_, ((X.at (a := 497) rfl).trans (by rw [q497])), rfl⟩, ⟨496, _, _, _, rfl, ((X.at (a := 496) rfl).trans (by rw [q496])), rfl, rfl⟩, rfl, rfl, rfl⟩
theorem bind__law_lay (P : Params) : ∀ vs : List Value, vs.length = 3 → bindArgs (fd__law_lay P) ⟨vs, []⟩ = pure ([(Str.ofString "code"), (Str.ofString "ranks"), (Str.ofString "longs")].zip vs) := fun vs h => by obtain ⟨v0, v1, v2, rfl⟩ := len3 h; rfl
-- law: params ['script'] locals ['nums', 'size', 'at', 'tokens', 'ladder', 'code', 'ranks', 'want', 'got'] globals ['len', 'Tokens', 'encode', 'decode', '_law_ladder', '_law_code', '_law_lay', '_law_grown', '_law_draw']
abbrev fd_law (P : Params) : FuncData := fdOf (o502_0 P)
theorem fn_law (X : X0 w h₀) : FnIs h₀ 502 (fd_law w.params) := ⟨⟨_, ((X.at (a := 502) rfl).trans (by rw [q502])), rfl⟩, ⟨501, _, _, _, rfl, ((X.at (a := 501) rfl).trans (by rw [q501])), rfl, rfl⟩, rfl, rfl, rfl⟩
theorem bind_law (P : Params) : ∀ vs : List Value, vs.length = 1 → bindArgs (fd_law P) ⟨vs, []⟩ = pure ([(Str.ofString "script")].zip vs) := fun vs h => by obtain ⟨v0, rfl⟩ := len1 h; rfl
end Mine
open PySem PySem.W PySem.Calls PyProof.Rows
set_option Elab.async false
set_option maxRecDepth 100000
set_option maxHeartbeats 4000000
set_option linter.unusedVariables false
noncomputable section
namespace Mine
open Mine.Hd
variable {prog : Program} {w : World} {h₀ : Heap} {d : Nat} {σ : List Res}
/- printed by wip/gen/genF2.py -/
/-- what a table's value stands for -/
noncomputable def conv (P : Params) : Value → MV
  | .int i _ => .int i
  | .ref a => match (KL P).lookup a with
    | some ⟨.type c, none, .seq vs n, sl⟩ => if c = "tuple" ∧ sl.size = 0 ∧ vs.size ≤ 10 ∧ vs.toList.all (fun v => match v with | .int _ _ => true | _ => false) then .tup (vs.toList.map fun v => match v with | .int i _ => .int i | v => .ext v) else .ext (.ref a)
    | _ => .ext (.ref a)
  | v => .ext v
theorem conv_ints {Φ : FMap} : ∀ {vs : List Value}, vs.all (fun v => match v with | .int _ _ => true | _ => false) = true → Reps Φ (vs.map fun v => match v with | .int i _ => .int i | v => .ext v) vs
  | [], _ => .nil
  | v :: vs, h => by
    rw [List.all_cons, Bool.and_eq_true] at h
    cases v with
    | int i t => exact .cons (.int i t) (conv_ints h.2)
    | _ => exact absurd h.1 Bool.false_ne_true
theorem conv_rep (X : X0 w h₀) (v : Value) : Rep h₀.get? (conv w.params v) v := by
  cases v with
  | int i t => exact .int i t
  | ref a =>
    unfold conv
    dsimp only
    split
    · rename_i c vs n sl e
      split
      · rename_i hc
        obtain ⟨rfl, h1, h2, h3⟩ := hc
        have hs : sl = #[] := Array.eq_empty_of_size_eq_zero h1
        subst hs
        exact .tup (n := n) (X.at e) (by rw [Array.toArray_toList]) (by rw [Array.toArray_toList]) (by rw [Array.length_toList]; unfold sizeLine; lia) (conv_ints h3)
      · exact .ext _
    · exact .ext _
  | _ => exact .ext _
noncomputable def intOf : Value → Option Int
  | .int i _ => some i
  | _ => none
theorem glob_i (X : X0 w h₀) {x : Str} {i : Int} (h : (nsFind (es3 w.params) x).bind intOf = some i) : GlobF h₀.get? x (.int i) := by
  obtain ⟨v, hv, e⟩ := Option.bind_eq_some_iff.mp h
  cases v with
  | int j t => cases e; exact glob_m X hv (.int _ t)
  | _ => cases e
/-- a table with int keys as a map -/
noncomputable def tabF (P : Params) (es : Array DictEntry) (k : Int) : Option MV := (findBy Value.isInt es k).map (conv P)
theorem rep_tab (X : X0 w h₀) {a : Addr} {o : Obj} {es : Array DictEntry} {n : Nat} (h : h₀.get? a = some o) (ho : o = { cls := .type "dict", data := .dict es n }) (hk : intKeysB es = true) (hs : (a == sysModules) = false) (hz : es.size ≤ 1000) : Rep h₀.get? (.imap (tabF w.params es)) (.ref a) := by
  subst ho
  refine .imap (g := fun k => (findBy Value.isInt es k).getD .none) h ⟨hs, ⟨rfl, rfl, rfl⟩, ⟨n, rfl⟩, intKeys_ofB hk, by unfold sizeLine; lia⟩ (fun k hk => ?_) (fun k m hk => ?_) (fun k m hk => ?_)
  · unfold tabF at hk; exact Option.map_eq_none_iff.mp hk
  · obtain ⟨v, hv, rfl⟩ := Option.map_eq_some_iff.mp hk
    rw [hv]; rfl
  · obtain ⟨v, hv, rfl⟩ := Option.map_eq_some_iff.mp hk
    rw [hv]; exact conv_rep X v
noncomputable def es_OP_SORT (P : Params) : Array DictEntry := esOf (o54_0 P)
theorem ik_OP_SORT (P : Params) : intKeysB (es_OP_SORT P) = true := by kernel_rfl
theorem rep_OP_SORT (X : X0 w h₀) : Rep h₀.get? (.imap (tabF w.params (es_OP_SORT w.params))) (.ref 54) := rep_tab X (o := o54_0 w.params) ((X.at (a := 54) rfl).trans (by rw [q54])) rfl (ik_OP_SORT _) rfl (by show (es_OP_SORT w.params).size ≤ 1000; exact of_decide_eq_true (by kernel_rfl))
noncomputable def es_SHORT (P : Params) : Array DictEntry := esOf (o62_0 P)
theorem ik_SHORT (P : Params) : intKeysB (es_SHORT P) = true := by kernel_rfl
theorem rep_SHORT (X : X0 w h₀) : Rep h₀.get? (.imap (tabF w.params (es_SHORT w.params))) (.ref 62) := rep_tab X (o := o62_0 w.params) ((X.at (a := 62) rfl).trans (by rw [q62])) rfl (ik_SHORT _) rfl (by show (es_SHORT w.params).size ≤ 1000; exact of_decide_eq_true (by kernel_rfl))
noncomputable def es_SHORT_BYTE (P : Params) : Array DictEntry := esOf (o122_0 P)
theorem ik_SHORT_BYTE (P : Params) : intKeysB (es_SHORT_BYTE P) = true := by kernel_rfl
theorem rep_SHORT_BYTE (X : X0 w h₀) : Rep h₀.get? (.imap (tabF w.params (es_SHORT_BYTE w.params))) (.ref 122) := rep_tab X (o := o122_0 w.params) ((X.at (a := 122) rfl).trans (by rw [q122])) rfl (ik_SHORT_BYTE _) rfl (by show (es_SHORT_BYTE w.params).size ≤ 1000; exact of_decide_eq_true (by kernel_rfl))
noncomputable def es_SHORT_RUN (P : Params) : Array DictEntry := esOf (o123_0 P)
theorem ik_SHORT_RUN (P : Params) : intKeysB (es_SHORT_RUN P) = true := by kernel_rfl
theorem rep_SHORT_RUN (X : X0 w h₀) : Rep h₀.get? (.imap (tabF w.params (es_SHORT_RUN w.params))) (.ref 123) := rep_tab X (o := o123_0 w.params) ((X.at (a := 123) rfl).trans (by rw [q123])) rfl (ik_SHORT_RUN _) rfl (by show (es_SHORT_RUN w.params).size ≤ 1000; exact of_decide_eq_true (by kernel_rfl))
theorem g_OP_SORT (X : X0 w h₀) : GlobF h₀.get? (Str.ofString "OP_SORT") (.imap (tabF w.params (es_OP_SORT w.params))) := glob_m X (u := .ref 54) (by kernel_rfl) (rep_OP_SORT X)
theorem g_SO_BRANCH (X : X0 w h₀) : GlobF h₀.get? (Str.ofString "SO_BRANCH") (.int 5) := glob_i X (by kernel_rfl)
theorem g_OP_SWITCH (X : X0 w h₀) : GlobF h₀.get? (Str.ofString "OP_SWITCH") (.int 69) := glob_i X (by kernel_rfl)
theorem g_is_branch (X : X0 w h₀) : GlobF h₀.get? (Str.ofString "is_branch") (.ext (.ref 162)) := glob_m X (u := .ref 162) (by kernel_rfl) (.ext _)
theorem g_OP_CONSTRAINED (X : X0 w h₀) : GlobF h₀.get? (Str.ofString "OP_CONSTRAINED") (.int 65046) := glob_i X (by kernel_rfl)
theorem g_OP_CALLVIRT (X : X0 w h₀) : GlobF h₀.get? (Str.ofString "OP_CALLVIRT") (.int 111) := glob_i X (by kernel_rfl)
theorem g_OP_READONLY (X : X0 w h₀) : GlobF h₀.get? (Str.ofString "OP_READONLY") (.int 65054) := glob_i X (by kernel_rfl)
theorem g_OP_LDELEMA (X : X0 w h₀) : GlobF h₀.get? (Str.ofString "OP_LDELEMA") (.int 143) := glob_i X (by kernel_rfl)
theorem g_OP_LEAVE (X : X0 w h₀) : GlobF h₀.get? (Str.ofString "OP_LEAVE") (.int 221) := glob_i X (by kernel_rfl)
theorem g_OP_BR (X : X0 w h₀) : GlobF h₀.get? (Str.ofString "OP_BR") (.int 56) := glob_i X (by kernel_rfl)
theorem g_SHORT_RUN (X : X0 w h₀) : GlobF h₀.get? (Str.ofString "SHORT_RUN") (.imap (tabF w.params (es_SHORT_RUN w.params))) := glob_m X (u := .ref 123) (by kernel_rfl) (rep_SHORT_RUN X)
theorem g_SF_FIXED (X : X0 w h₀) : GlobF h₀.get? (Str.ofString "SF_FIXED") (.int 0) := glob_i X (by kernel_rfl)
theorem g_SHORT_BYTE (X : X0 w h₀) : GlobF h₀.get? (Str.ofString "SHORT_BYTE") (.imap (tabF w.params (es_SHORT_BYTE w.params))) := glob_m X (u := .ref 122) (by kernel_rfl) (rep_SHORT_BYTE X)
theorem g_SF_U8 (X : X0 w h₀) : GlobF h₀.get? (Str.ofString "SF_U8") (.int 1) := glob_i X (by kernel_rfl)
theorem g_OP_LDC_I4 (X : X0 w h₀) : GlobF h₀.get? (Str.ofString "OP_LDC_I4") (.int 32) := glob_i X (by kernel_rfl)
theorem g_SF_I8 (X : X0 w h₀) : GlobF h₀.get? (Str.ofString "SF_I8") (.int 2) := glob_i X (by kernel_rfl)
theorem g_SHORT_ELEM (X : X0 w h₀) : GlobF h₀.get? (Str.ofString "SHORT_ELEM") (.ext (.ref 128)) := glob_m X (u := .ref 128) (by kernel_rfl) (.ext _)
theorem g_len (X : X0 w h₀) : GlobF h₀.get? (Str.ofString "len") (.ext (.builtin "len")) := glob_b X (u := .builtin "len") (by kernel_rfl) (by kernel_rfl) (.ext _)
theorem g_range (X : X0 w h₀) : GlobF h₀.get? (Str.ofString "range") (.ext (.type "range")) := glob_b X (u := .type "range") (by kernel_rfl) (by kernel_rfl) (.ext _)
theorem g_targets (X : X0 w h₀) : GlobF h₀.get? (Str.ofString "targets") (.ext (.ref 169)) := glob_m X (u := .ref 169) (by kernel_rfl) (.ext _)
-- no fact: BadCode
theorem g_prefix_goal (X : X0 w h₀) : GlobF h₀.get? (Str.ofString "prefix_goal") (.ext (.ref 176)) := glob_m X (u := .ref 176) (by kernel_rfl) (.ext _)
theorem g_MOST_INDEX (X : X0 w h₀) : GlobF h₀.get? (Str.ofString "MOST_INDEX") (.int 65534) := glob_i X (by kernel_rfl)
theorem g_op_sort (X : X0 w h₀) : GlobF h₀.get? (Str.ofString "op_sort") (.ext (.ref 148)) := glob_m X (u := .ref 148) (by kernel_rfl) (.ext _)
theorem g_SO_NONE (X : X0 w h₀) : GlobF h₀.get? (Str.ofString "SO_NONE") (.int 0) := glob_i X (by kernel_rfl)
theorem g_jump_octet (X : X0 w h₀) : GlobF h₀.get? (Str.ofString "jump_octet") (.ext (.ref 183)) := glob_m X (u := .ref 183) (by kernel_rfl) (.ext _)
theorem g_SO_SWITCH (X : X0 w h₀) : GlobF h₀.get? (Str.ofString "SO_SWITCH") (.int 6) := glob_i X (by kernel_rfl)
theorem g_SO_ARG (X : X0 w h₀) : GlobF h₀.get? (Str.ofString "SO_ARG") (.int 3) := glob_i X (by kernel_rfl)
theorem g_SO_LOCAL (X : X0 w h₀) : GlobF h₀.get? (Str.ofString "SO_LOCAL") (.int 4) := glob_i X (by kernel_rfl)
theorem g_il_check_index (X : X0 w h₀) : GlobF h₀.get? (Str.ofString "il_check_index") (.ext (.ref 267)) := glob_m X (u := .ref 267) (by kernel_rfl) (.ext _)
theorem g_sized_form (X : X0 w h₀) : GlobF h₀.get? (Str.ofString "sized_form") (.ext (.ref 288)) := glob_m X (u := .ref 288) (by kernel_rfl) (.ext _)
theorem g_SO_I4 (X : X0 w h₀) : GlobF h₀.get? (Str.ofString "SO_I4") (.int 1) := glob_i X (by kernel_rfl)
theorem g_check_signed (X : X0 w h₀) : GlobF h₀.get? (Str.ofString "check_signed") (.ext (.ref 274)) := glob_m X (u := .ref 274) (by kernel_rfl) (.ext _)
theorem g_SO_I8 (X : X0 w h₀) : GlobF h₀.get? (Str.ofString "SO_I8") (.int 2) := glob_i X (by kernel_rfl)
theorem g_SO_KIND (X : X0 w h₀) : GlobF h₀.get? (Str.ofString "SO_KIND") (.int 7) := glob_i X (by kernel_rfl)
theorem g_short_form (X : X0 w h₀) : GlobF h₀.get? (Str.ofString "short_form") (.ext (.ref 190)) := glob_m X (u := .ref 190) (by kernel_rfl) (.ext _)
theorem g_token_at (X : X0 w h₀) : GlobF h₀.get? (Str.ofString "token_at") (.ext (.ref 239)) := glob_m X (u := .ref 239) (by kernel_rfl) (.ext _)
theorem g_op_size (X : X0 w h₀) : GlobF h₀.get? (Str.ofString "op_size") (.ext (.ref 155)) := glob_m X (u := .ref 155) (by kernel_rfl) (.ext _)
theorem g_offsets_of (X : X0 w h₀) : GlobF h₀.get? (Str.ofString "offsets_of") (.ext (.ref 302)) := glob_m X (u := .ref 302) (by kernel_rfl) (.ext _)
theorem g_too_far (X : X0 w h₀) : GlobF h₀.get? (Str.ofString "too_far") (.ext (.ref 309)) := glob_m X (u := .ref 309) (by kernel_rfl) (.ext _)
theorem g_form_size (X : X0 w h₀) : GlobF h₀.get? (Str.ofString "form_size") (.ext (.ref 295)) := glob_m X (u := .ref 295) (by kernel_rfl) (.ext _)
theorem g_TWO_OCTETS (X : X0 w h₀) : GlobF h₀.get? (Str.ofString "TWO_OCTETS") (.int 254) := glob_i X (by kernel_rfl)
theorem g_put_head (X : X0 w h₀) : GlobF h₀.get? (Str.ofString "put_head") (.ext (.ref 330)) := glob_m X (u := .ref 330) (by kernel_rfl) (.ext _)
theorem g_il_put_number (X : X0 w h₀) : GlobF h₀.get? (Str.ofString "il_put_number") (.ext (.ref 323)) := glob_m X (u := .ref 323) (by kernel_rfl) (.ext _)
theorem g_check_code (X : X0 w h₀) : GlobF h₀.get? (Str.ofString "check_code") (.ext (.ref 260)) := glob_m X (u := .ref 260) (by kernel_rfl) (.ext _)
theorem g_form_of (X : X0 w h₀) : GlobF h₀.get? (Str.ofString "form_of") (.ext (.ref 281)) := glob_m X (u := .ref 281) (by kernel_rfl) (.ext _)
theorem g_il_settle (X : X0 w h₀) : GlobF h₀.get? (Str.ofString "il_settle") (.ext (.ref 316)) := glob_m X (u := .ref 316) (by kernel_rfl) (.ext _)
theorem g_bytearray (X : X0 w h₀) : GlobF h₀.get? (Str.ofString "bytearray") (.ext (.type "bytearray")) := glob_b X (u := .type "bytearray") (by kernel_rfl) (by kernel_rfl) (.ext _)
theorem g_put_form (X : X0 w h₀) : GlobF h₀.get? (Str.ofString "put_form") (.ext (.ref 337)) := glob_m X (u := .ref 337) (by kernel_rfl) (.ext _)
theorem g_bytes (X : X0 w h₀) : GlobF h₀.get? (Str.ofString "bytes") (.ext (.type "bytes")) := glob_b X (u := .type "bytes") (by kernel_rfl) (by kernel_rfl) (.ext _)
theorem g_il_read_operand (X : X0 w h₀) : GlobF h₀.get? (Str.ofString "il_read_operand") (.ext (.ref 400)) := glob_m X (u := .ref 400) (by kernel_rfl) (.ext _)
theorem g_SHORT (X : X0 w h₀) : GlobF h₀.get? (Str.ofString "SHORT") (.imap (tabF w.params (es_SHORT w.params))) := glob_m X (u := .ref 62) (by kernel_rfl) (rep_SHORT X)
theorem g_il_read_short (X : X0 w h₀) : GlobF h₀.get? (Str.ofString "il_read_short") (.ext (.ref 393)) := glob_m X (u := .ref 393) (by kernel_rfl) (.ext _)
theorem g_read_switch (X : X0 w h₀) : GlobF h₀.get? (Str.ofString "read_switch") (.ext (.ref 407)) := glob_m X (u := .ref 407) (by kernel_rfl) (.ext _)
theorem g_tuple (X : X0 w h₀) : GlobF h₀.get? (Str.ofString "tuple") (.ext (.type "tuple")) := glob_b X (u := .type "tuple") (by kernel_rfl) (by kernel_rfl) (.ext _)
theorem g_goal_at (X : X0 w h₀) : GlobF h₀.get? (Str.ofString "goal_at") (.ext (.ref 421)) := glob_m X (u := .ref 421) (by kernel_rfl) (.ext _)
theorem g_CodeIn (X : X0 w h₀) : GlobF h₀.get? (Str.ofString "CodeIn") (.ext (.ref 375)) := glob_m X (u := .ref 375) (by kernel_rfl) (.ext _)
theorem g_il_read_ins (X : X0 w h₀) : GlobF h₀.get? (Str.ofString "il_read_ins") (.ext (.ref 386)) := glob_m X (u := .ref 386) (by kernel_rfl) (.ext _)
theorem g_places_of (X : X0 w h₀) : GlobF h₀.get? (Str.ofString "places_of") (.ext (.ref 414)) := glob_m X (u := .ref 414) (by kernel_rfl) (.ext _)
theorem g_place_targets (X : X0 w h₀) : GlobF h₀.get? (Str.ofString "place_targets") (.ext (.ref 428)) := glob_m X (u := .ref 428) (by kernel_rfl) (.ext _)
theorem g__law_draw (X : X0 w h₀) : GlobF h₀.get? (Str.ofString "_law_draw") (.ext (.ref 442)) := glob_m X (u := .ref 442) (by kernel_rfl) (.ext _)
theorem g_sum (X : X0 w h₀) : GlobF h₀.get? (Str.ofString "sum") (.ext (.builtin "sum")) := glob_b X (u := .builtin "sum") (by kernel_rfl) (by kernel_rfl) (.ext _)
theorem g_sorted (X : X0 w h₀) : GlobF h₀.get? (Str.ofString "sorted") (.ext (.builtin "sorted")) := glob_b X (u := .builtin "sorted") (by kernel_rfl) (by kernel_rfl) (.ext _)
theorem g__law_fill (X : X0 w h₀) : GlobF h₀.get? (Str.ofString "_law_fill") (.ext (.ref 454)) := glob_m X (u := .ref 454) (by kernel_rfl) (.ext _)
theorem g__law_zone (X : X0 w h₀) : GlobF h₀.get? (Str.ofString "_law_zone") (.ext (.ref 478)) := glob_m X (u := .ref 478) (by kernel_rfl) (.ext _)
theorem g_min (X : X0 w h₀) : GlobF h₀.get? (Str.ofString "min") (.ext (.builtin "min")) := glob_b X (u := .builtin "min") (by kernel_rfl) (by kernel_rfl) (.ext _)
theorem g__law_little (X : X0 w h₀) : GlobF h₀.get? (Str.ofString "_law_little") (.ext (.ref 447)) := glob_m X (u := .ref 447) (by kernel_rfl) (.ext _)
theorem g__law_plain (X : X0 w h₀) : GlobF h₀.get? (Str.ofString "_law_plain") (.ext (.ref 490)) := glob_m X (u := .ref 490) (by kernel_rfl) (.ext _)
theorem g_Tokens (X : X0 w h₀) : GlobF h₀.get? (Str.ofString "Tokens") (.ext (.ref 228)) := glob_m X (u := .ref 228) (by kernel_rfl) (.ext _)
theorem g_encode (X : X0 w h₀) : GlobF h₀.get? (Str.ofString "encode") (.ext (.ref 344)) := glob_m X (u := .ref 344) (by kernel_rfl) (.ext _)
theorem g_decode (X : X0 w h₀) : GlobF h₀.get? (Str.ofString "decode") (.ext (.ref 435)) := glob_m X (u := .ref 435) (by kernel_rfl) (.ext _)
theorem g__law_ladder (X : X0 w h₀) : GlobF h₀.get? (Str.ofString "_law_ladder") (.ext (.ref 461)) := glob_m X (u := .ref 461) (by kernel_rfl) (.ext _)
theorem g__law_code (X : X0 w h₀) : GlobF h₀.get? (Str.ofString "_law_code") (.ext (.ref 483)) := glob_m X (u := .ref 483) (by kernel_rfl) (.ext _)
theorem g__law_lay (X : X0 w h₀) : GlobF h₀.get? (Str.ofString "_law_lay") (.ext (.ref 497)) := glob_m X (u := .ref 497) (by kernel_rfl) (.ext _)
theorem g__law_grown (X : X0 w h₀) : GlobF h₀.get? (Str.ofString "_law_grown") (.ext (.ref 466)) := glob_m X (u := .ref 466) (by kernel_rfl) (.ext _)
theorem g__law_goal (X : X0 w h₀) : GlobF h₀.get? (Str.ofString "_law_goal") (.ext (.ref 471)) := glob_m X (u := .ref 471) (by kernel_rfl) (.ext _)
end Mine
open PySem PySem.W PySem.Calls PyProof.Rows
set_option Elab.async false
set_option maxRecDepth 100000
set_option maxHeartbeats 4000000
set_option linter.unusedVariables false
noncomputable section
namespace Mine
open Mine.Hd
variable {w : World} {h₀ : Heap}
/-! the two classes -/
theorem cls_Tokens (P : Params) : ClsK (KL P) 228 := ⟨by kernel_rfl, by kernel_rfl, by kernel_rfl, by kernel_rfl, by kernel_rfl, by kernel_rfl⟩
theorem cls_CodeIn (P : Params) : ClsK (KL P) 375 := ⟨by kernel_rfl, by kernel_rfl, by kernel_rfl, by kernel_rfl, by kernel_rfl, by kernel_rfl⟩
theorem ci_data (P : Params) : findIn (KL P) (.ref 375) (Str.ofString "data") = some none := by kernel_rfl
theorem ci_at (P : Params) : findIn (KL P) (.ref 375) (Str.ofString "at") = some none := by kernel_rfl
theorem ci_init (P : Params) : findIn (KL P) (.ref 375) "__init__" = some (some (.ref 358)) := by kernel_rfl
theorem ci_number (P : Params) : findIn (KL P) (.ref 375) (Str.ofString "number") = some (some (.ref 365)) := by kernel_rfl
theorem ci_signed (P : Params) : findIn (KL P) (.ref 375) (Str.ofString "signed") = some (some (.ref 372)) := by kernel_rfl
theorem ci_f358 (P : Params) : typeIn (KL P) (.ref 358) = some (.type "function") := by kernel_rfl
theorem ci_f365 (P : Params) : isFn (KL P) (.ref 365) = true := by kernel_rfl
theorem ci_f372 (P : Params) : isFn (KL P) (.ref 372) = true := by kernel_rfl
theorem tk_init (P : Params) : findIn (KL P) (.ref 228) "__init__" = some (some (.ref 204)) := by kernel_rfl
theorem tk_f204 (P : Params) : typeIn (KL P) (.ref 204) = some (.type "function") := by kernel_rfl
theorem ci_tdata (P : Params) : takerIn (KL P) 375 (Str.ofString "data") = some none := by kernel_rfl
theorem ci_tat (P : Params) : takerIn (KL P) 375 (Str.ofString "at") = some none := by kernel_rfl
theorem tk_t1 (P : Params) : takerIn (KL P) 228 (Str.ofString "of_ref") = some none := by kernel_rfl
theorem tk_t2 (P : Params) : takerIn (KL P) 228 (Str.ofString "refs") = some none := by kernel_rfl
end Mine
open PySem PySem.W PySem.Calls PyProof.Rows
set_option Elab.async false
set_option maxRecDepth 100000
set_option maxHeartbeats 4000000
set_option linter.unusedVariables false
noncomputable section
namespace Mine
open Mine.Hd
variable {prog : Program} {w : World} {h₀ : Heap}
noncomputable def es_ELEM (P : Params) : Array DictEntry := esOf (o128_0 P)
noncomputable def intsAt (P : Params) (a : Addr) : List Int := match (KL P).lookup a with
  | some o => (match o.data with | .seq vs _ => vs.toList.filterMap intOf | _ => [])
  | none => []
noncomputable def elemL (P : Params) : List (List Int × Addr × Value) := (es_ELEM P).toList.filterMap fun e => match e.key with
  | .ref a => some (intsAt P a, a, e.val)
  | _ => none
noncomputable def tkB (P : Params) (x : List Int × Addr × Value) : Bool := match (KL P).lookup x.2.1 with
  | some o => o.cls == .type "tuple" && (match o.data with | .seq vs _ => decide (vs.toList.length = x.1.length) && (List.zip x.1 vs.toList).all (fun p => Value.isInt p.1 p.2) | _ => false)
  | none => false
theorem itemsAre_of : ∀ {ks : List Int} {vs : List Value}, vs.length = ks.length → (List.zip ks vs).all (fun p => Value.isInt p.1 p.2) = true → ItemsAre (intKind prog w) ks vs
  | [], [], _, _ => .nil
  | [], _ :: _, h, _ => by simp at h
  | _ :: _, [], h, _ => by simp at h
  | k :: ks, v :: vs, h, h2 => by
    rw [List.zip_cons_cons, List.all_cons, Bool.and_eq_true] at h2
    exact .cons h2.1 (itemsAre_of (by simpa using h) h2.2)
theorem tk_of (X : X0 w h₀) {x : List Int × Addr × Value} (h : tkB w.params x = true) {h' : Heap} (k : ∀ a o, h₀.get? a = some o → h'.get? a = some o) : IsTupleKey (intKind prog w) h' x.1 x.2.1 := by
  unfold tkB at h
  split at h
  · rename_i o e
    rw [Bool.and_eq_true] at h
    obtain ⟨h1, h2⟩ := h
    split at h2
    · rename_i vs n e2
      rw [Bool.and_eq_true] at h2
      exact ⟨o, vs, n, k _ _ (X.at e), beq_iff_eq.mp h1, e2, itemsAre_of (of_decide_eq_true h2.1) h2.2⟩
    · cases h2
  · cases h
theorem elem_eq (P : Params) : (es_ELEM P).toList = (elemL P).map (entryOfKey (tupleKind (intKind prog w))) := by kernel_rfl
theorem elem_tk (P : Params) : (elemL P).all (tkB P) = true := by kernel_rfl
theorem elem_nd (P : Params) : decide ((elemL P).map (·.1)).Nodup = true := by kernel_rfl
theorem hD_ELEM (X : X0 w h₀) : ∀ h : Heap, (∀ a o, h₀.get? a = some o → h.get? a = some o) → h.DictOfH (tupleKind (intKind prog w)) 128 (elemL w.params) := fun h k =>
  ⟨o128_0 w.params, es_ELEM w.params, _, k _ _ ((X.at (a := 128) rfl).trans (by rw [q128])), ⟨rfl, rfl, rfl⟩, rfl, elem_eq _, fun x hx => tk_of X (List.all_eq_true.mp (elem_tk _) x hx) k, of_decide_eq_true (elem_nd _)⟩
end Mine
set_option compiler.extract_closed false
open PySem PySem.W PySem.Calls PyProof.Rows
set_option Elab.async false
set_option maxRecDepth 100000
set_option maxHeartbeats 2000000
set_option linter.unusedVariables false
noncomputable section
namespace Mine
open Mine.Hd
section
variable {prog : Program} {w : World} {h₀ : Heap} {d : Nat} {f : FrS} {σ : List Res} {P : MV → List Res → Prop} {pos npos : Pos}
theorem EV_callG {x : Str} {e : Expr} {es : List Expr} {u : Value} (hx : (x, .ext u) ∈ f.γ) (hk : Kp h₀ u) (h : EVs prog w h₀ d f σ pos (e :: es) (fun ms σ2 => CALL prog w h₀ d σ2 (.ext u) ms P))
    (he : ∀ env, eval (.Call (.Name x npos) (e :: es) [] pos) env = (do callWith pos (← eval (.Name x npos) env) [] (backTo pos (starEach (e :: es) env)) (backToKw pos (keywordEach [] env))) := by intro _; rfl)
    (he2 : ∀ env, starEach (e :: es) env = (false, eval e env) :: starEach es env := by intro _; rfl) (hplain : ∀ env, (backTo pos (starEach es env)).any (·.1) = false := by intro _; rfl) : EV prog w h₀ d f σ (.Call (.Name x npos) (e :: es) [] pos) P :=
  EV_call hk (EV_glob hx ⟨rfl, h⟩) he he2 hplain
section
variable {prog : Program} {w : World} {h₀ : Heap} {d : Nat} {env : Env} {γ : List (Str × MV)} {ρ : Loc} {σ : List Res} {P : FL → Loc → List Res → Prop} {rest : List Stmt} {I : Loc → List Res → Prop} {v : MV}
theorem Cn_next (h : XV prog w h₀ d env γ ρ σ rest P) : Cn prog w h₀ d env γ rest P .next ρ σ := h
theorem Cn_ret (h : P (.ret v) ρ σ) : Cn prog w h₀ d env γ rest P (.ret v) ρ σ := h
end
end
section
variable {h₀ : Heap}
theorem gnil : ∀ p ∈ ([] : List (Str × MV)), GlobF h₀.get? p.1 p.2 := fun _ h => nomatch h
theorem gcons {x : Str} {v : MV} {γ : List (Str × MV)} (h : GlobF h₀.get? x v) (r : ∀ p ∈ γ, GlobF h₀.get? p.1 p.2) : ∀ p ∈ (x, v) :: γ, GlobF h₀.get? p.1 p.2 := fun p hp => (List.mem_cons.mp hp).elim (fun e => by subst e; exact h) (r p)
end
section
theorem br_tt {A B : Prop} (h : A) : (true = true → A) ∧ (true = false → B) := ⟨fun _ => h, fun h => (nomatch h)⟩
theorem br_ff {A B : Prop} (h : B) : (false = true → A) ∧ (false = false → B) := ⟨fun h => (nomatch h), fun _ => h⟩
theorem br_ff' {A B : Prop} (h : B) : (false = false → B) ∧ (false = true → A) := ⟨fun _ => h, fun h => (nomatch h)⟩
theorem br_some {α : Type} {x : α} {A B : Prop} (h : A) : ((some x).isSome = true → A) ∧ ((some x).isSome = false → B) := ⟨fun _ => h, fun h => (nomatch h)⟩
theorem br_none {α : Type} {A B : Prop} (h : B) : ((Option.none : Option α).isSome = true → A) ∧ ((Option.none : Option α).isSome = false → B) := ⟨fun h => (nomatch h), fun _ => h⟩
theorem br_dec {p : Prop} [Decidable p] {A B : Prop} (h1 : p → A) (h2 : ¬p → B) : (decide p = true → A) ∧ (decide p = false → B) := ⟨fun h => h1 (of_decide_eq_true h), fun h => h2 (of_decide_eq_false h)⟩
theorem br_dec' {p : Prop} [Decidable p] {A B : Prop} (h2 : ¬p → B) (h1 : p → A) : (decide p = false → B) ∧ (decide p = true → A) := ⟨fun h => h2 (of_decide_eq_false h), fun h => h1 (of_decide_eq_true h)⟩
theorem br_eq {a b : Int} {A B : Prop} (h1 : a = b → A) (h2 : a ≠ b → B) : ((a == b) = true → A) ∧ ((a == b) = false → B) := ⟨fun h => h1 (by simpa using h), fun h => h2 (by simpa using h)⟩
theorem br_eq' {a b : Int} {A B : Prop} (h2 : a ≠ b → B) (h1 : a = b → A) : ((a == b) = false → B) ∧ ((a == b) = true → A) := ⟨fun h => h2 (by simpa using h), fun h => h1 (by simpa using h)⟩
theorem br_ne {a b : Int} {A B : Prop} (h1 : a ≠ b → A) (h2 : a = b → B) : ((a != b) = true → A) ∧ ((a != b) = false → B) := ⟨fun h => h1 (by simpa using h), fun h => h2 (by simpa using h)⟩
theorem br_ne' {a b : Int} {A B : Prop} (h2 : a = b → B) (h1 : a ≠ b → A) : ((a != b) = false → B) ∧ ((a != b) = true → A) := ⟨fun h => h2 (by simpa using h), fun h => h1 (by simpa using h)⟩
theorem lenOk {α : Type} {l : List α} (h : Nat.ble l.length 100 = true) : l.length ≤ sizeLine := Nat.le_trans (Nat.le_of_ble_eq_true h) (by decide)
variable {prog : Program} {w : World} {h₀ : Heap} {d : Nat} {σ : List Res} {P : MV → List Res → Prop}
theorem SUB_t0 {value slice : Expr} {a : MV} {r : List MV} (h : P a σ) (hs : ∀ o i, subscripted slice false o i = operate [o, i] (getItem o i)) : SUB prog w h₀ d σ value slice (.tup (a :: r)) (.int 0) P := SUB_tup (by decide) rfl h hs
theorem SUB_t1 {value slice : Expr} {a b : MV} {r : List MV} (h : P b σ) (hs : ∀ o i, subscripted slice false o i = operate [o, i] (getItem o i)) : SUB prog w h₀ d σ value slice (.tup (a :: b :: r)) (.int 1) P := SUB_tup (by decide) rfl h hs
theorem SUB_t2 {value slice : Expr} {a b c : MV} {r : List MV} (h : P c σ) (hs : ∀ o i, subscripted slice false o i = operate [o, i] (getItem o i)) : SUB prog w h₀ d σ value slice (.tup (a :: b :: c :: r)) (.int 2) P := SUB_tup (by decide) rfl h hs
theorem CALL_lenlm {α : Type} {u : MV} {l : List α} {f : α → MV} (hu : IsL σ u (l.map f)) (h : P (.int l.length) σ) : CALL prog w h₀ d σ (.ext (.builtin "len")) [u] P := CALL_lenl hu (by rw [List.length_map]; exact h)
noncomputable def fnAddrs : List Addr := [148, 155, 162, 169, 176, 183, 190, 260, 267, 274, 281, 288, 295, 302, 309, 316, 323, 330, 337, 344, 386, 393, 400, 407, 414, 421, 428, 435, 442, 447, 454, 461, 466, 471, 478, 483, 490, 497, 502, 358, 365, 372, 204]
theorem all_cons {α : Type} {p : α → Prop} {a : α} {l : List α} (h : p a) (r : ∀ x ∈ l, p x) : ∀ x ∈ a :: l, p x := fun x hx => (List.mem_cons.mp hx).elim (fun e => by subst e; exact h) (r x)
theorem fn_all (X : X0 w h₀) : ∀ a ∈ fnAddrs, ∃ fd, FnIs h₀ a fd :=
  all_cons ⟨_, fn_op_sort X⟩ (all_cons ⟨_, fn_op_size X⟩ (all_cons ⟨_, fn_is_branch X⟩ (all_cons ⟨_, fn_targets X⟩ (all_cons ⟨_, fn_prefix_goal X⟩ (all_cons ⟨_, fn_jump_octet X⟩ (all_cons ⟨_, fn_short_form X⟩ (all_cons ⟨_, fn_check_code X⟩ (all_cons ⟨_, fn_il_check_index X⟩ (all_cons ⟨_, fn_check_signed X⟩ (all_cons ⟨_, fn_form_of X⟩ (all_cons ⟨_, fn_sized_form X⟩ (all_cons ⟨_, fn_form_size X⟩ (all_cons ⟨_, fn_offsets_of X⟩ (all_cons ⟨_, fn_too_far X⟩ (all_cons ⟨_, fn_il_settle X⟩ (all_cons ⟨_, fn_il_put_number X⟩ (all_cons ⟨_, fn_put_head X⟩ (all_cons ⟨_, fn_put_form X⟩ (all_cons ⟨_, fn_encode X⟩ (all_cons ⟨_, fn_il_read_ins X⟩ (all_cons ⟨_, fn_il_read_short X⟩ (all_cons ⟨_, fn_il_read_operand X⟩ (all_cons ⟨_, fn_read_switch X⟩ (all_cons ⟨_, fn_places_of X⟩ (all_cons ⟨_, fn_goal_at X⟩ (all_cons ⟨_, fn_place_targets X⟩ (all_cons ⟨_, fn_decode X⟩ (all_cons ⟨_, fn__law_draw X⟩ (all_cons ⟨_, fn__law_little X⟩ (all_cons ⟨_, fn__law_fill X⟩ (all_cons ⟨_, fn__law_ladder X⟩ (all_cons ⟨_, fn__law_grown X⟩ (all_cons ⟨_, fn__law_goal X⟩ (all_cons ⟨_, fn__law_zone X⟩ (all_cons ⟨_, fn__law_code X⟩ (all_cons ⟨_, fn__law_plain X⟩ (all_cons ⟨_, fn__law_lay X⟩ (all_cons ⟨_, fn_law X⟩ (all_cons ⟨_, fn_CodeIn___init__ X⟩ (all_cons ⟨_, fn_CodeIn_number X⟩ (all_cons ⟨_, fn_CodeIn_signed X⟩ (all_cons ⟨_, fn_Tokens___init__ X⟩ (fun _ h => (nomatch h))))))))))))))))))))))))))))))))))))))))))))
theorem Kp_addr (X : X0 w h₀) {a : Addr} (h : fnAddrs.elem a = true) : Kp h₀ (.ref a) := by
  obtain ⟨fd, H⟩ := fn_all X a (List.mem_of_elem_eq_true h)
  exact Kp_fn H
end
section
variable {prog : Program} {w : World} {h₀ : Heap} {d : Nat} {σ σ' : List Res} {env : Env} {γ : List (Str × MV)} {ρ ρ' : Loc}
theorem XV_perm {ss : List Stmt} {P : FL → Loc → List Res → Prop} (p : σ'.Perm σ) (h : XV prog w h₀ d env γ ρ σ ss P) : XV prog w h₀ d env γ ρ σ' ss P := JJ.perm h (p.cons _)
theorem JJ.dropR {α β : Type} {R : FMap → β → α → Prop} {pre : List Res} {ms : List MV} {t : List Value → Sem α} {p : β → List Res → Prop} {r : Res} (h : JJ prog w h₀ d R pre ms t p) : JJ prog w h₀ d R (r :: pre) ms t p :=
  fun A s Φ F E Q vs N R' kk => h A s Φ F E Q vs (N.next (.refl _) N.rel.drop) R' kk
theorem JC.dropR {α β : Type} {R : FMap → β → α → Prop} {pre : List Res} {ms : List MV} {t : List Value → Sem α} {p : β → List Res → Prop} {r : Res} (h : JC prog w h₀ d R pre ms t p) : JC prog w h₀ d R (r :: pre) ms t p :=
  fun A s Φ F Q vs N R' kk => h A s Φ F Q vs (N.next (.refl _) N.rel.drop) R' kk
theorem XV_forget {ss : List Stmt} {P : FL → Loc → List Res → Prop} {r : Res} (h : XV prog w h₀ d env γ ρ σ ss P) : XV prog w h₀ d env γ ρ (r :: σ) ss P :=
  JJ.perm (JJ.dropR h) (List.Perm.swap _ _ _)
theorem XVc_perm {ss : List Stmt} {P : FL → Loc → List Res → Prop} (p : σ'.Perm σ) (h : XVc prog w h₀ d env γ ρ σ ss P) : XVc prog w h₀ d env γ ρ σ' ss P := JC.perm h (p.cons _)
theorem XVc_forget {ss : List Stmt} {P : FL → Loc → List Res → Prop} {r : Res} (h : XVc prog w h₀ d env γ ρ σ ss P) : XVc prog w h₀ d env γ ρ (r :: σ) ss P :=
  JC.perm (JC.dropR h) (List.Perm.swap _ _ _)
end
section
variable {prog : Program} {w : World} {h₀ : Heap} {d : Nat} {f : FrS} {env : Env} {γ : List (Str × MV)} {ρ ρ' : Loc} {σ : List Res} {P : FL → Loc → List Res → Prop} {pos npos : Pos}
theorem memρ (hf : f = fs env γ ρ) {p : Str × Option MV} (h : p ∈ ρ) : p ∈ f.ρ := by rw [hf]; exact h
theorem memγ (hf : f = fs env γ ρ) {p : Str × MV} (h : p ∈ γ) : p ∈ f.γ := by rw [hf]; exact h
theorem EV_compF {PV : MV → List Res → Prop} (hf : f = fs env γ ρ) {elt iter : Expr} {ifs : List Expr} {x : Str} {px : Pos} {scope : Scope} {cl : List (Str × Addr)} {cap : Loc} {γc : List (Str × MV)} {xs : List MV} (C : CompOk h₀ env ρ scope cl x cap γc)
    (Inv : Nat → List MV → List Res → Prop) (h : EV prog w h₀ d f σ iter (fun v τ => Itr v xs ∧ xs.length ≤ sizeLine ∧ Inv 0 [] τ))
    (step : ∀ C K i m ys τ, xs[i]? = some m → ys.length ≤ i → Inv i ys τ → TURN prog w h₀ d (cfr env scope cl C γc x (some m) cap K) τ ifs elt ys (Inv (i + 1)))
    (fin : ∀ D ys τ, Inv xs.length ys τ → PV (.ref D) (.list D ys :: τ)) (hs : ∀ x, foldedSetIterable iter env x = pure x := by intro _; rfl) :
    EV prog w h₀ d f σ (.ListComp elt [⟨.Name x px, iter, ifs, 0⟩] scope pos) PV := by subst hf; exact EV_comp C Inv h step fin hs
end
section
variable {prog : Program} {w : World} {h₀ : Heap} {d : Nat} {env : Env} {γ : List (Str × MV)} {ρ : Loc} {σ : List Res} {P : FL → Loc → List Res → Prop} {pos npos : Pos}
theorem X1_assignG {t e : Expr} (h : let r := ρ; ∀ (f : FrS) (Q : MV → List Res → Prop), f = fs env γ r → (∀ v σ1, AS prog w h₀ d env γ r σ1 t v (fun ρ' σ2 => P .next ρ' σ2) → Q v σ1) → EV prog w h₀ d f σ e Q)
    (hs : swapsWithSole [t] e pos.line env = pure false) (hw : swappedStores [t] e env = pure none) (he : (assignEach [t] env).map (·.2) = [assign t env]) : X1 prog w h₀ d env γ ρ σ (.Assign [t] e pos) P := X1_assign (h _ _ rfl fun _ _ x => x) hs hw he
theorem X1_ifG {t : Expr} {b o : List Stmt} (h : let r := ρ; ∀ (f : FrS) (Q : Bool → List Res → Prop), f = fs env γ r → (∀ x σ1, ((x = true → XV prog w h₀ d env γ r σ1 b P) ∧ (x = false → XV prog w h₀ d env γ r σ1 o P)) → Q x σ1) → TE prog w h₀ d f σ t Q) : X1 prog w h₀ d env γ ρ σ (.If t b o pos) P := X1_if (h _ _ rfl fun _ _ x => x)
theorem X1_returnG {e : Expr} (h : let r := ρ; ∀ (f : FrS) (Q : MV → List Res → Prop), f = fs env γ r → (∀ v σ1, P (.ret v) r σ1 → Q v σ1) → EV prog w h₀ d f σ e Q) : X1 prog w h₀ d env γ ρ σ (.Return (some e) pos) P := X1_return (h _ _ rfl fun _ _ x => x)
theorem X1_exprG {e : Expr} (h : let r := ρ; ∀ (f : FrS) (Q : MV → List Res → Prop), f = fs env γ r → (∀ v σ1, v = .none ∧ P .next r σ1 → Q v σ1) → EV prog w h₀ d f σ e Q) (hi : interactive env = false) (hs : swapsWith e none pos.line env = pure false) : X1 prog w h₀ d env γ ρ σ (.Expr e pos) P := X1_expr (h _ _ rfl fun _ _ x => x) hi hs
theorem X1_aug_nameG {x : Str} {op : Operator} {e : Expr} {v : MV} (hx : (x, some v) ∈ ρ) (h : let r := ρ; ∀ (f : FrS) (Q : MV → List Res → Prop), f = fs env γ r → (∀ u σ1, INP prog w h₀ d σ1 op v u (fun y σ2 => ∃ ρ', UpdL x y r ρ' ∧ P .next ρ' σ2) → Q u σ1) → EV prog w h₀ d f σ e Q) : X1 prog w h₀ d env γ ρ σ (.AugAssign (.Name x npos) op e pos) P := X1_aug_name hx (h _ _ rfl fun _ _ x => x)
end
section
variable {prog : Program} {w : World} {h₀ : Heap} {d : Nat} {σ : List Res} {P : MV → List Res → Prop} {fd : FuncData} {a : Addr} {body : List Stmt} {args : List MV}
theorem CALL_fnL (H : FnIs h₀ a fd) (hl : h₀.NoLimit) (hbody : fd.body = .stmts body) (ps rest : List Str) (γ : List (Str × MV))
    (hγ : ∀ p ∈ γ, GlobF h₀.get? p.1 p.2) (hlen : args.length = ps.length) (hb : ∀ vs : List Value, vs.length = ps.length → bindArgs fd ⟨vs, []⟩ = pure (ps.zip vs))
    (ok : okFrame fd.scope.names (ps ++ rest) (γ.map (·.1)) = true)
    (h : ∀ L, let zE := callEnvC fd L a; let zP : FL → Loc → List Res → Prop := fun fl _ σ' => P (retV fl) σ'; XV prog w h₀ d zE γ (loc0 ps args rest) σ body zP)
    (hco : fd.scope.isCoroutine = false := by rfl) (hgen : fd.scope.isGenerator = false := by rfl) (hk : fd.scope.kind = .function := by rfl) : CALL prog w h₀ (d + 1) σ (.ext (.ref a)) args P :=
  CALL_fn H hl hbody ps rest γ hγ hlen hb ok h hco hgen hk
theorem CALLc_fnL (H : FnIs h₀ a fd) (hl : h₀.NoLimit) (hbody : fd.body = .stmts body) (ps rest : List Str) (γ : List (Str × MV))
    (hγ : ∀ p ∈ γ, GlobF h₀.get? p.1 p.2) (hlen : args.length = ps.length) (hb : ∀ vs : List Value, vs.length = ps.length → bindArgs fd ⟨vs, []⟩ = pure (ps.zip vs))
    (ok : okFrame fd.scope.names (ps ++ rest) (γ.map (·.1)) = true)
    (h : ∀ L, let zE := callEnvC fd L a; let zP : FL → Loc → List Res → Prop := fun fl _ σ' => P (retV fl) σ'; XVc prog w h₀ d zE γ (loc0 ps args rest) σ body zP)
    (hco : fd.scope.isCoroutine = false := by rfl) (hgen : fd.scope.isGenerator = false := by rfl) (hk : fd.scope.kind = .function := by rfl) : CALLc prog w h₀ (d + 1) σ (.ext (.ref a)) args P :=
  CALLc_fn H hl hbody ps rest γ hγ hlen hb ok h hco hgen hk
end
set_option hygiene false
local macro_rules | `(tactic| walk_at "mem") => `(tactic| with_reducible first | exact List.mem_cons_self | (apply List.mem_cons_of_mem; walk_at "mem") | (refine memρ (by assumption) ?_; walk_at "mem") | (refine memγ (by assumption) ?_; walk_at "mem"))
local macro_rules | `(tactic| walk_at "upd") => `(tactic| with_reducible first | exact UpdL.head | exact UpdR.head | ((first | apply UpdL.tail | apply UpdR.tail); walk_at "upd"))
local macro_rules | `(tactic| walk_at "isl") => `(tactic| with_reducible first | exact IsL.frozen | exact IsL.at (by walk_at "mem"))
local macro_rules | `(tactic| walk_at "frz") => `(tactic| with_reducible first | exact FrzL.nil | ((first | apply FrzL.put Frz.here | apply FrzL.keep); walk_at "frz"))
local macro_rules | `(tactic| walk_at "kp") => `(tactic| first | with_reducible exact Kp_builtin | with_reducible exact Kp_type | exact Kp_addr (by with_reducible assumption) (by with_unfolding_all rfl))
local macro_rules | `(tactic| walk_at "start") => `(tactic| (intro zL zE zP; (conv in (fnBody _) => whnf); (conv in (loc0 _ _ _) => simp only [loc0, List.map_cons, List.map_nil, List.zip_cons_cons, List.zip_nil_left, List.nil_append, List.cons_append])))
set_option hygiene true
local macro_rules | `(tactic| walk_at "br") => `(tactic| first | refine br_tt ?_ | refine br_ff ?_ | refine br_ff' ?_ | refine br_some ?_ | refine br_none ?_ | ((first | refine br_eq ?_ ?_ | refine br_ne ?_ ?_ | refine br_eq' ?_ ?_ | refine br_ne' ?_ ?_ | refine br_dec ?_ ?_ | refine br_dec' ?_ ?_ | refine And.intro ?_ ?_) <;> (intro hc; try (first | exact absurd hc (by decide) | (exfalso; lia)))))
set_option hygiene false
local macro_rules | `(tactic| walk_at "s") => `(tactic| with_reducible first | (show EV _ _ _ _ _ _ _ _; (first | refine EV_name (by walk_at "mem") ?_ | refine EV_glob (by walk_at "mem") ?_ | refine EV_int ?_ | refine EV_sub ?_ | refine EV_binop ?_ | (show EV _ _ _ _ _ _ (.Call _ _ _ _) _; refine EV_callG (by walk_at "mem") (by walk_at "kp") ?_ (by intros; with_unfolding_all rfl) (by intros; with_unfolding_all rfl) (by intros; with_unfolding_all rfl)) | refine EV_compare ?_ (by with_unfolding_all rfl) | refine EV_tuple ?_ | refine EV_unary ?_ | refine EV_bool ?_ | refine EV_bytes ?_ (by decide) | refine EV_ifexp ?_ | refine EV_or2 ?_)) | refine EVs_cons ?_ (by intros; with_unfolding_all rfl) | refine EVs_nil ?_ | (show X1 _ _ _ _ _ _ _ _ _ _; (try clear zk zh zQ zf); (first | refine X1_assignG ?_ (by with_unfolding_all rfl) (by with_unfolding_all rfl) (by with_unfolding_all rfl) | refine X1_ifG ?_ | refine X1_returnG ?_ | refine X1_exprG ?_ (by with_unfolding_all rfl) (by with_unfolding_all rfl) | refine X1_aug_nameG (by walk_at "mem") ?_); intro zr zf zQ zh zk) | refine XV_cons ?_ | refine XV_nil ?_ | (show TE _ _ _ _ _ _ _ _; first | refine TE_compare ?_ (by with_unfolding_all rfl) | refine TE_boolop ?_ | refine TE_value (EV_callG (by walk_at "mem") (by walk_at "kp") ?_ (by intros; with_unfolding_all rfl) (by intros; with_unfolding_all rfl) (by intros; with_unfolding_all rfl)) (by intros; with_unfolding_all rfl) | refine TE_value (EV_name (by walk_at "mem") ?_) (by intros; with_unfolding_all rfl)) | refine Cn_next ?_ | refine Cn_ret ?_ | (show BIN _ _ _ _ _ _ _ _ _; (first | refine BIN_add ?_ | refine BIN_sub ?_ | refine BIN_mul ?_ (.inl (by decide)) | refine BIN_mul ?_ (.inr (by decide)))) | (show CMP _ _ _ _ _ _ _ _ _; (first | refine CMP_eq ?_ | refine CMP_ge ?_ | refine CMP_lt ?_ | refine CMP_le ?_ | refine CMP_gt ?_ | refine CMP_ne ?_)) | (show SUB _ _ _ _ _ _ _ _ _ _; first | refine SUB_t0 ?_ (by intros; with_unfolding_all rfl) | refine SUB_t1 ?_ (by intros; with_unfolding_all rfl) | refine SUB_t2 ?_ (by intros; with_unfolding_all rfl)) | (show CALL _ _ _ _ _ _ _ _; (first | refine CALL_range ?_ | refine CALL_lent ?_ | refine CALL_lenb ?_ | (show CALL _ _ _ _ _ (.ext (.builtin "len")) _ _; first | refine CALL_lenlm (by walk_at "isl") ?_ | refine CALL_lenl (by walk_at "isl") ?_))) | refine And.intro (lenOk (by with_unfolding_all rfl)) ?_ | refine And.intro (Eq.refl MV.none) ?_ | (show _ ∧ _; walk_at "br") | (show AS _ _ _ _ _ _ _ _ _ _ _; first | refine AS_name (by walk_at "upd") ?_ | refine AS_tuple ?_ (by with_unfolding_all rfl) (by with_unfolding_all rfl) (by with_unfolding_all rfl)) | refine TRU_bool ?_ | refine TRU_int ?_ | refine TEs_or ?_ | refine TEs_and ?_ | refine TEs_or_nil ?_ | refine TEs_and_nil ?_ | refine INP_add ?_ | refine INP_sub ?_ | refine UN_neg ?_ | refine ASs_nil ?_ | refine ASs_cons ?_ | (show Exists _; refine Exists.intro _ (And.intro (by walk_at "upd") ?_)) | refine zk _ _ ?_ | fail)
local macro_rules | `(tactic| walk_at "w") => `(tactic| repeat' walk_at "s")
local macro_rules | `(tactic| walk_at "app") => `(tactic| (refine EV_meth (u := .builtin "list.append") Kp_builtin ?_; walk_at "w"; refine And.intro (HM_append (by walk_at "mem")) ?_; walk_at "w"))
local macro_rules | `(tactic| walk_at "om") => `(tactic| first | with_reducible exact Int.natCast_nonneg _ | with_reducible assumption | lia)
section
variable {prog : Program} {w : World} {h₀ : Heap} {d : Nat} {σ : List Res} {P : MV → List Res → Prop}
noncomputable def opSize (op : Int) : Int := if op ≥ 65024 then 2 else 1
theorem C_op_size (X : X0 w h₀) {op : Int} (h : P (.int (opSize op)) σ) : CALL prog w h₀ (d + 1) σ (.ext (.ref 155)) [.int op] P := by
  refine CALL_fnL (fn_op_size X) X.lim rfl [Str.ofString "op"] [] _ gnil rfl (bind_op_size _) (by kernel_rfl) ?_
  walk_at "start"
  walk_at "w"
  · rename_i hc; rw [opSize, if_pos hc] at h; exact h
  · rename_i hc; rw [opSize, if_neg hc] at h; exact h
/-- a table whose values are all ints -/
noncomputable def intValsB (es : Array DictEntry) : Bool := es.toList.all fun e => (intOf e.val).isSome
noncomputable def tabI (es : Array DictEntry) (k : Int) : Int := ((findBy Value.isInt es k).bind intOf).getD (-1)
theorem findBy_mem {es : Array DictEntry} {k : Int} {v : Value} (h : findBy Value.isInt es k = some v) : ∃ e ∈ es.toList, e.val = v := by
  unfold findBy at h
  obtain ⟨e, he, rfl⟩ := Option.map_eq_some_iff.mp h
  exact ⟨e, Array.mem_toList_iff.mpr (Array.mem_of_find?_eq_some he), rfl⟩
theorem tabI_get {P : Params} {es : Array DictEntry} (hB : intValsB es = true) (k : Int) : (tabF P es k).getD (.int (-1)) = .int (tabI es k) := by
  unfold tabF tabI
  cases h : findBy Value.isInt es k with
  | none => rfl
  | some v =>
    obtain ⟨e, he, rfl⟩ := findBy_mem h
    have := List.all_eq_true.mp hB e he
    cases hv : e.val with
    | int i t => simp [conv, intOf]
    | _ => rw [hv] at this; cases this
theorem iv_OP_SORT (P : Params) : intValsB (es_OP_SORT P) = true := by kernel_rfl
noncomputable abbrev sortI (P : Params) (op : Int) : Int := tabI (es_OP_SORT P) op
theorem C_op_sort (X : X0 w h₀) {op : Int} (h : P (.int (sortI w.params op)) σ) : CALL prog w h₀ (d + 1) σ (.ext (.ref 148)) [.int op] P := by
  refine CALL_fnL (fn_op_sort X) X.lim rfl [Str.ofString "op"] [] _ (gcons (g_OP_SORT X) gnil) rfl (bind_op_sort _) (by kernel_rfl) ?_
  walk_at "start"
  walk_at "w"
  refine EV_meth (u := .builtin "dict.get") Kp_builtin ?_
  walk_at "w"
  refine ⟨HM_get (.inl rfl), ?_⟩
  walk_at "w"
  refine CALL_get (.inl rfl) ?_
  rw [tabI_get (iv_OP_SORT _)]
  walk_at "w"
  exact h
theorem C_is_branch (X : X0 w h₀) {op : Int} (h : P (.bool (sortI w.params op == 5)) σ) : CALL prog w h₀ (d + 1) σ (.ext (.ref 162)) [.int op] P := by
  refine CALL_fnL (fn_is_branch X) X.lim rfl [Str.ofString "op"] [] _ (gcons (g_OP_SORT X) (gcons (g_SO_BRANCH X) gnil)) rfl (bind_is_branch _) (by kernel_rfl) ?_
  walk_at "start"
  walk_at "w"
  refine EV_meth (u := .builtin "dict.get") Kp_builtin ?_
  walk_at "w"
  refine ⟨HM_get (.inl rfl), ?_⟩
  walk_at "w"
  refine CALL_get (.inl rfl) ?_
  rw [tabI_get (iv_OP_SORT _)]
  walk_at "w"
  exact h
noncomputable def prefixGoal (op : Int) : Int := if op = 65046 then 111 else if op = 65054 then 143 else -1
theorem C_prefix_goal (X : X0 w h₀) {op : Int} (h : P (.int (prefixGoal op)) σ) : CALL prog w h₀ (d + 1) σ (.ext (.ref 176)) [.int op] P := by
  refine CALL_fnL (fn_prefix_goal X) X.lim rfl [Str.ofString "op"] [] _ (gcons (g_OP_CONSTRAINED X) (gcons (g_OP_CALLVIRT X) (gcons (g_OP_READONLY X) (gcons (g_OP_LDELEMA X) gnil)))) rfl (bind_prefix_goal _) (by kernel_rfl) ?_
  walk_at "start"
  walk_at "w"
  · rename_i h1; rw [prefixGoal, if_pos h1] at h; exact h
  · rename_i h1 _ h2; rw [prefixGoal, if_neg h1, if_pos h2] at h; exact h
  · rename_i h1 _ h2; rw [prefixGoal, if_neg h1, if_neg h2] at h; exact h
noncomputable def jumpOctet (op : Int) : Int := if op = 221 then 222 else op - 56 + 43
theorem C_jump_octet (X : X0 w h₀) {op : Int} (h : P (.int (jumpOctet op)) σ) : CALL prog w h₀ (d + 1) σ (.ext (.ref 183)) [.int op] P := by
  refine CALL_fnL (fn_jump_octet X) X.lim rfl [Str.ofString "op"] [] _ (gcons (g_OP_LEAVE X) (gcons (g_OP_BR X) gnil)) rfl (bind_jump_octet _) (by kernel_rfl) ?_
  walk_at "start"
  walk_at "w"
  · rename_i h1; rw [jumpOctet, if_pos h1] at h; exact h
  · rename_i h1; rw [jumpOctet, if_neg h1] at h; exact h
end
/-- a row of the code: a plain one (a number) or a switch -/
inductive Ins where
  | num (op n : Int)
  | sw (gs : List Int)
noncomputable def Ins.mv : Ins → MV
  | .num op n => .tup [.int op, .int n]
  | .sw gs => .tup [.int 69, .tup (gs.map .int)]
noncomputable def Ins.op : Ins → Int
  | .num op _ => op
  | .sw _ => 69
def Ins.tgt (P : Params) : Ins → List Int
  | .num op n => if sortI P op == 5 then [n] else []
  | .sw gs => gs
def Ins.ok : Ins → Prop
  | .num op _ => op ≠ 69
  | .sw _ => True
section
variable {prog : Program} {w : World} {h₀ : Heap} {d : Nat} {σ : List Res} {P : MV → List Res → Prop}
theorem C_targets (X : X0 w h₀) {x : Ins} (hx : x.ok) (h : P (.tup ((x.tgt w.params).map .int)) σ) : CALL prog w h₀ (d + 2) σ (.ext (.ref 169)) [x.mv] P := by
  cases x with
  | sw gs =>
    change CALL _ _ _ _ _ _ [.tup [.int 69, .tup (gs.map .int)]] P
    refine CALL_fnL (fn_targets X) X.lim rfl [Str.ofString "ins"] [] _ (gcons (g_OP_SWITCH X) (gcons (g_is_branch X) gnil)) rfl (bind_targets _) (by kernel_rfl) ?_
    walk_at "start"
    walk_at "w"
    exact h
  | num op n =>
    change op ≠ 69 at hx
    change CALL _ _ _ _ _ _ [.tup [.int op, .int n]] P
    refine CALL_fnL (fn_targets X) X.lim rfl [Str.ofString "ins"] [] _ (gcons (g_OP_SWITCH X) (gcons (g_is_branch X) gnil)) rfl (bind_targets _) (by kernel_rfl) ?_
    walk_at "start"
    walk_at "w"
    refine C_is_branch X ?_
    walk_at "w"
    · rename_i hc
      rw [show Ins.tgt w.params (.num op n) = [n] from if_pos (by rw [hc]; rfl)] at h
      exact h
    · rename_i hc
      rw [show Ins.tgt w.params (.num op n) = [] from if_neg (by simpa using hc)] at h
      exact h
end
section
variable {prog : Program} {w : World} {h₀ : Heap} {d : Nat} {σ : List Res} {P : MV → List Res → Prop}
theorem get_map {l : List Int} {k : Nat} {x : Int} (h : l[k]? = some x) : (l.map MV.int)[k]? = some (.int x) := by rw [List.getElem?_map, h]; rfl
noncomputable def farB (way : Int) : Bool := decide (way < -128) || decide (way > 127)
theorem C_too_far (X : X0 w h₀) {v : MV} {offs : List Int} {i goal a b : Int} (I : IsL σ v (offs.map .int)) (h0 : 0 ≤ goal) (h1 : 0 ≤ i) (ha : offs[goal.toNat]? = some a) (hb : offs[(i + 1).toNat]? = some b) (h : P (.bool (farB (a - b))) σ) :
    CALL prog w h₀ (d + 1) σ (.ext (.ref 309)) [v, .int i, .int goal] P := by
  refine CALL_fnL (fn_too_far X) X.lim rfl [Str.ofString "offsets", Str.ofString "i", Str.ofString "goal"] [Str.ofString "way"] _ gnil rfl (bind_too_far _) (by kernel_rfl) ?_
  walk_at "start"
  walk_at "w"
  refine SUB_list I h0 (get_map ha) ?_
  walk_at "w"
  refine SUB_list I (by walk_at "om") (get_map hb) ?_
  walk_at "w"
  · rename_i hc
    rw [show farB (a - b) = true by unfold farB; rw [decide_eq_true hc]; rfl, ← decide_eq_true hc] at h
    exact h
  · rename_i hc
    rw [show farB (a - b) = decide (a - b > 127) by unfold farB; rw [decide_eq_false hc]; rfl] at h
    exact h
end
section
variable {prog : Program} {w : World} {h₀ : Heap} {d : Nat} {env : Env} {γ : List (Str × MV)} {ρ : Loc} {σ σ' : List Res} {P : FL → Loc → List Res → Prop}
theorem X1_perm {s : Stmt} (p : σ'.Perm σ) (h : X1 prog w h₀ d env γ ρ σ s P) : X1 prog w h₀ d env γ ρ σ' s P := JJ.perm h (p.cons _)
end
/-- running sums -/
noncomputable def offsL : Int → List Int → List Int
  | a, [] => [a]
  | a, s :: r => a :: offsL (a + s) r
theorem offsL_snoc : ∀ (l : List Int) (a s : Int), offsL a (l ++ [s]) = offsL a l ++ [a + l.sum + s]
  | [], a, s => by simp [offsL]
  | x :: l, a, s => by simp [offsL, offsL_snoc l]; lia
theorem offsL_last : ∀ (l : List Int) (a : Int), ∃ xs, offsL a l = xs ++ [a + l.sum]
  | [], a => ⟨[], by simp [offsL]⟩
  | x :: l, a => by
    obtain ⟨xs, h⟩ := offsL_last l (a + x)
    exact ⟨a :: xs, by simp [offsL, h]; lia⟩
theorem offsL_length : ∀ (l : List Int) (a : Int), (offsL a l).length = l.length + 1
  | [], _ => rfl
  | _ :: l, _ => by simp [offsL, offsL_length l]
section
variable {prog : Program} {w : World} {h₀ : Heap} {d : Nat} {σ : List Res} {P : MV → List Res → Prop}
theorem C_offsets_of (X : X0 w h₀) {a : Addr} {sizes : List Int} (hz : sizes.length ≤ 100000) (h : ∀ b, P (.ref b) (.list a (sizes.map .int) :: .list b ((offsL 0 sizes).map .int) :: σ)) :
    CALL prog w h₀ (d + 1) (.list a (sizes.map .int) :: σ) (.ext (.ref 302)) [.ref a] P := by
  refine CALL_fnL (fn_offsets_of X) X.lim rfl [Str.ofString "sizes"] [Str.ofString "out", Str.ofString "size"] _ gnil rfl (bind_offsets_of _) (by kernel_rfl) ?_
  walk_at "start"
  walk_at "w"
  refine EV_list ?_
  walk_at "w"
  intro b
  walk_at "w"
  refine X1_perm (List.Perm.swap _ _ _) ?_
  refine X1_for_mut (a := a) (xs := sizes.map .int) (fun i ρ τ => ∃ ov, ρ = [(Str.ofString "sizes", some (.ref a)), (Str.ofString "out", some (.ref b)), (Str.ofString "size", ov)] ∧ τ = .list b ((offsL 0 (sizes.take i)).map .int) :: σ) ?_ ?_ ?_
  · walk_at "w"
    exact ⟨rfl, _, rfl, none, rfl, rfl⟩
  · rintro i m ρ τ hm ⟨ov, rfl, rfl⟩
    walk_at "w"
    obtain ⟨x, hx, rfl⟩ : ∃ x, sizes[i]? = some x ∧ m = .int x := by
      rw [List.getElem?_map] at hm
      obtain ⟨x, hx, e⟩ := Option.map_eq_some_iff.mp hm
      exact ⟨x, hx, e.symm⟩
    obtain ⟨xs, hxs⟩ := offsL_last (sizes.take i) 0
    have e1 : (offsL 0 (sizes.take i)).map MV.int = xs.map .int ++ [.int (0 + (sizes.take i).sum)] := by rw [hxs, List.map_append]; rfl
    have e2 : (offsL 0 (sizes.take (i + 1))).map MV.int = (offsL 0 (sizes.take i)).map .int ++ [.int (0 + (sizes.take i).sum + x)] := by
      rw [List.take_add_one, hx, Option.toList_some, offsL_snoc, List.map_append]; rfl
    refine EV_meth (u := .builtin "list.append") Kp_builtin ?_
    walk_at "w"
    refine ⟨HM_append List.mem_cons_self, ?_⟩
    walk_at "w"
    refine SUB_last (xs := xs.map .int) (m := .int (0 + (sizes.take i).sum)) (by rw [← e1]; exact .at List.mem_cons_self) ?_
    walk_at "w"
    refine CALL_append .head (by rw [List.length_map, offsL_length, List.length_take]; unfold sizeLine; lia) ?_
    walk_at "w"
    exact ⟨_, rfl, by rw [e2]⟩
  · rintro ρ τ ⟨ov, rfl, rfl⟩
    rw [List.length_map, List.take_length]
    refine Cn_next ?_
    walk_at "w"
    exact h b
end
noncomputable def Ins.len : Ins → Int
  | .num _ _ => 0
  | .sw gs => gs.length
noncomputable def formSize (o wd : Int) (x : Ins) : Int := if wd < 0 then opSize o + 4 + 4 * x.len else opSize o + wd
section
variable {prog : Program} {w : World} {h₀ : Heap} {d : Nat} {σ : List Res} {P : MV → List Res → Prop}
theorem C_form_size (X : X0 w h₀) {o wd v : Int} {x : Ins} (hn : wd < 0 → ∃ gs, x = .sw gs) (h : P (.int (formSize o wd x)) σ) :
    CALL prog w h₀ (d + 2) σ (.ext (.ref 295)) [.tup [.int o, .int wd, .int v], x.mv] P := by
  refine CALL_fnL (fn_form_size X) X.lim rfl [Str.ofString "form", Str.ofString "ins"] [] _ (gcons (g_op_size X) (gcons (g_len X) gnil)) rfl (bind_form_size _) (by kernel_rfl) ?_
  walk_at "start"
  walk_at "w"
  · rename_i hc
    obtain ⟨gs, rfl⟩ := hn hc
    refine C_op_size X ?_
    walk_at "w"
    change SUB _ _ _ _ _ _ _ (.tup [.int 69, .tup (gs.map .int)]) _ _
    walk_at "w"
    rw [formSize, if_pos hc] at h
    rw [List.length_map]
    exact h
  · rename_i hc
    refine C_op_size X ?_
    walk_at "w"
    rw [formSize, if_neg hc] at h
    exact h
end
section
variable {prog : Program} {w : World} {h₀ : Heap} {d : Nat} {σ : List Res} {P : MV → List Res → Prop}
theorem C_check_index (X : X0 w h₀) {n i : Int} (h0 : 0 ≤ n) (h1 : n ≤ 65534) (h : P .none σ) : CALL prog w h₀ (d + 1) σ (.ext (.ref 267)) [.int n, .int i] P := by
  refine CALL_fnL (fn_il_check_index X) X.lim rfl [Str.ofString "operand", Str.ofString "i"] [] _ (gcons (g_MOST_INDEX X) gnil) rfl (bind_il_check_index _) (by kernel_rfl) ?_
  walk_at "start"
  walk_at "w"
  exact h
theorem C_check_signed (X : X0 w h₀) {n b i : Int} (hb : b = 32 ∨ b = 64) (h0 : -2147483648 ≤ n) (h1 : n < 2147483648) (h : P .none σ) : CALL prog w h₀ (d + 1) σ (.ext (.ref 274)) [.int n, .int b, .int i] P := by
  refine CALL_fnL (fn_check_signed X) X.lim rfl [Str.ofString "operand", Str.ofString "bits", Str.ofString "i"] [Str.ofString "half"] _ gnil rfl (bind_check_signed _) (by kernel_rfl) ?_
  walk_at "start"
  walk_at "w"
  refine BIN_shl (by walk_at "om") (by walk_at "om") (by decide) ?_
  have e : (2147483648 : Int) ≤ 1 * 2 ^ (b - 1).toNat := by rcases hb with rfl | rfl <;> decide
  generalize (1 : Int) * 2 ^ (b - 1).toNat = half at e
  walk_at "w"
  exact h
end
section
variable {prog : Program} {w : World} {h₀ : Heap} {d : Nat} {σ : List Res}
theorem run32 (P : Params) : tabF P (es_SHORT_RUN P) 32 = some (.tup [.int 21, .int (-1), .int 10]) := by kernel_rfl
theorem run12 (P : Params) : tabF P (es_SHORT_RUN P) 65036 = some (.tup [.int 6, .int 0, .int 4]) := by kernel_rfl
theorem byte32 (P : Params) : tabF P (es_SHORT_BYTE P) 32 = none := by kernel_rfl
theorem byte12 (P : Params) : tabF P (es_SHORT_BYTE P) 65036 = some (.int 17) := by kernel_rfl
theorem elem_hd (P : Params) : (elemL P).all (fun x => x.1.head? == some 163 || x.1.head? == some 164) = true := by kernel_rfl
theorem elem_none (P : Params) {op n : Int} (h : op ≠ 163 ∧ op ≠ 164) : atKey (elemL P) [op, n] = none := by
  unfold atKey
  rw [Option.map_eq_none_iff, List.find?_eq_none]
  intro x hx e
  have := List.all_eq_true.mp (elem_hd P) x hx
  rw [of_decide_eq_true e] at this
  simp at this
  lia
end
section
variable {prog : Program} {w : World} {h₀ : Heap} {d : Nat} {σ : List Res} {P : MV → List Res → Prop}
theorem C_elem32 (X : X0 w h₀) {n : Int} {PB : Bool → List Res → Prop} (h : PB false σ) : CMP prog w h₀ (d + 2) σ .In (.tup [.int 32, .int n]) (.ext (.ref 128)) PB := by
  refine CMP_in_pairs (xs := elemL w.params) rfl (hD_ELEM X) ?_
  have e : (atKey (elemL w.params) [32, n]).isSome = false := by rw [elem_none w.params (op := 32) (n := n) ⟨by decide, by decide⟩]; rfl
  rw [e]
  exact h
theorem C_short32 (X : X0 w h₀) {n : Int} (h0 : 9 ≤ n) (h : P (if n ≤ 127 then .tup [.int 31, .int 2] else .tup [.int (-1), .int 0]) σ) : CALL prog w h₀ (d + 3) σ (.ext (.ref 190)) [.int 32, .int n] P := by
  refine CALL_fnL (fn_short_form X) X.lim rfl [Str.ofString "op", Str.ofString "operand"] [Str.ofString "run", Str.ofString "place"] _ (gcons (g_SHORT_RUN X) (gcons (g_SF_FIXED X) (gcons (g_SHORT_BYTE X) (gcons (g_SF_U8 X) (gcons (g_OP_LDC_I4 X) (gcons (g_SF_I8 X) (gcons (g_SHORT_ELEM X) gnil))))))) rfl (bind_short_form _) (by kernel_rfl) ?_
  walk_at "start"
  walk_at "w"
  refine CMP_in (.inl rfl) ?_
  rw [run32]
  walk_at "w"
  refine SUB_map (.inl rfl) (run32 _) ?_
  walk_at "w"
  all_goals (
    refine CMP_in (.inl rfl) ?_
    rw [byte32]
    walk_at "w")
  · rename_i hc
    rw [if_pos hc] at h
    exact h
  · rename_i hc
    refine C_elem32 X ?_
    walk_at "w"
    rw [if_neg hc] at h
    exact h
end
section
variable {prog : Program} {w : World} {h₀ : Heap} {d : Nat} {σ : List Res} {P : MV → List Res → Prop}
theorem C_elem12 (X : X0 w h₀) {n : Int} {PB : Bool → List Res → Prop} (h : PB false σ) : CMP prog w h₀ (d + 2) σ .In (.tup [.int 65036, .int n]) (.ext (.ref 128)) PB := by
  refine CMP_in_pairs (xs := elemL w.params) rfl (hD_ELEM X) ?_
  have e : (atKey (elemL w.params) [65036, n]).isSome = false := by rw [elem_none w.params (op := 65036) (n := n) ⟨by decide, by decide⟩]; rfl
  rw [e]
  exact h
theorem C_short12 (X : X0 w h₀) {n : Int} (h0 : 256 ≤ n) (h : P (.tup [.int (-1), .int 0]) σ) : CALL prog w h₀ (d + 3) σ (.ext (.ref 190)) [.int 65036, .int n] P := by
  refine CALL_fnL (fn_short_form X) X.lim rfl [Str.ofString "op", Str.ofString "operand"] [Str.ofString "run", Str.ofString "place"] _ (gcons (g_SHORT_RUN X) (gcons (g_SF_FIXED X) (gcons (g_SHORT_BYTE X) (gcons (g_SF_U8 X) (gcons (g_OP_LDC_I4 X) (gcons (g_SF_I8 X) (gcons (g_SHORT_ELEM X) gnil))))))) rfl (bind_short_form _) (by kernel_rfl) ?_
  walk_at "start"
  walk_at "w"
  refine CMP_in (.inl rfl) ?_
  rw [run12]
  walk_at "w"
  refine SUB_map (.inl rfl) (run12 _) ?_
  walk_at "w"
  refine CMP_in (.inl rfl) ?_
  rw [byte12]
  walk_at "w"
  refine C_elem12 X ?_
  walk_at "w"
  exact h
theorem C_sized_form (X : X0 w h₀) {op n wd : Int} (h : (op = 32 ∧ 9 ≤ n ∧ n ≤ 127 ∧ P (.tup [.int 31, .int 1, .int n]) σ) ∨ ((op = 32 ∧ 127 < n ∨ op = 65036 ∧ 256 ≤ n) ∧ P (.tup [.int op, .int wd, .int n]) σ)) :
    CALL prog w h₀ (d + 4) σ (.ext (.ref 288)) [.int op, .int n, .int wd] P := by
  refine CALL_fnL (fn_sized_form X) X.lim rfl [Str.ofString "op", Str.ofString "operand", Str.ofString "width"] [Str.ofString "octet", Str.ofString "form"] _ (gcons (g_short_form X) (gcons (g_SF_FIXED X) gnil)) rfl (bind_sized_form _) (by kernel_rfl) ?_
  walk_at "start"
  walk_at "w"
  rcases h with ⟨rfl, h0, h1, h⟩ | ⟨⟨rfl, h0⟩ | ⟨rfl, h0⟩, h⟩
  · refine C_short32 X h0 ?_
    rw [if_pos h1]
    walk_at "w"
    exact h
  · refine C_short32 X (by walk_at "om") ?_
    rw [if_neg (by walk_at "om")]
    walk_at "w"
    exact h
  · refine C_short12 X h0 ?_
    walk_at "w"
    exact h
end
/-! the rows of the codes in view -/
noncomputable def isBrN (op : Int) : Bool := (decide (56 ≤ op) && decide (op ≤ 68)) || op == 221
noncomputable def Ins.br : Ins → Bool
  | .num op _ => isBrN op
  | .sw _ => false
inductive Ins.Ok (c : Int) : Ins → Prop
  | none (op : Int) : op = 0 ∨ op = 42 → Ins.Ok c (.num op 0)
  | i8 (n : Int) : -2147483648 ≤ n → n < 2147483648 → Ins.Ok c (.num 33 n)
  | i4 (n : Int) : 9 ≤ n → n < 2147483648 → Ins.Ok c (.num 32 n)
  | loc (n : Int) : 256 ≤ n → n ≤ 65534 → Ins.Ok c (.num 65036 n)
  | br (op n : Int) : isBrN op = true → 0 ≤ n → n < c → Ins.Ok c (.num op n)
  | sw (gs : List Int) : gs.length ≤ 1000 → (∀ g ∈ gs, 0 ≤ g ∧ g < c) → Ins.Ok c (.sw gs)
structure Form where
  o : Int
  wd : Int
  v : Int
noncomputable def Form.mv (f : Form) : MV := .tup [.int f.o, .int f.wd, .int f.v]
noncomputable def form0 : Ins → Form
  | .sw _ => ⟨69, -1, 0⟩
  | .num op n => if isBrN op = true then ⟨jumpOctet op, 1, 0⟩ else if op = 0 ∨ op = 42 then ⟨op, 0, 0⟩ else if op = 33 then ⟨33, 8, n⟩ else if op = 32 then (if n ≤ 127 then ⟨31, 1, n⟩ else ⟨32, 4, n⟩) else ⟨op, 2, n⟩
noncomputable def formL (x : Ins) (b : Bool) : Form := if (b && x.br) = true then ⟨x.op, 4, 0⟩ else form0 x
theorem isBrN_cases {op : Int} (h : isBrN op = true) : op = 56 ∨ op = 57 ∨ op = 58 ∨ op = 59 ∨ op = 60 ∨ op = 61 ∨ op = 62 ∨ op = 63 ∨ op = 64 ∨ op = 65 ∨ op = 66 ∨ op = 67 ∨ op = 68 ∨ op = 221 := by
  have key : ∀ k : Nat, k < 13 → (fun op : Int => op = 56 ∨ op = 57 ∨ op = 58 ∨ op = 59 ∨ op = 60 ∨ op = 61 ∨ op = 62 ∨ op = 63 ∨ op = 64 ∨ op = 65 ∨ op = 66 ∨ op = 67 ∨ op = 68 ∨ op = 221) (56 + (k : Int)) := by decide
  simp only [isBrN, Bool.or_eq_true, Bool.and_eq_true, decide_eq_true_eq, beq_iff_eq] at h
  rcases h with h | rfl
  · have e : op = 56 + ((op - 56).toNat : Int) := by lia
    rw [e]
    exact key (op - 56).toNat (by walk_at "om")
  · decide
theorem isBrN_range {op : Int} (h : isBrN op = true) : 56 ≤ op ∧ op ≤ 221 := by
  simp only [isBrN, Bool.or_eq_true, Bool.and_eq_true, decide_eq_true_eq, beq_iff_eq] at h
  lia
theorem isBrN_ne {op a : Int} (h : isBrN op = true) (ha : isBrN a = false) : op ≠ a := fun e => by rw [e, ha] at h; cases h
theorem sort_br (P : Params) {op : Int} (h : isBrN op = true) : sortI P op = 5 := by
  rcases isBrN_cases h with rfl | rfl | rfl | rfl | rfl | rfl | rfl | rfl | rfl | rfl | rfl | rfl | rfl | rfl <;> kernel_rfl
theorem sort_0 (P : Params) : sortI P 0 = 0 := by kernel_rfl
theorem sort_42 (P : Params) : sortI P 42 = 0 := by kernel_rfl
theorem sort_33 (P : Params) : sortI P 33 = 2 := by kernel_rfl
theorem sort_32 (P : Params) : sortI P 32 = 1 := by kernel_rfl
theorem sort_12 (P : Params) : sortI P 65036 = 4 := by kernel_rfl
theorem sort_69 (P : Params) : sortI P 69 = 6 := by kernel_rfl
theorem Ins.Ok.ok {c : Int} {x : Ins} (h : x.Ok c) : x.ok := by
  cases h with
  | none op h => exact (show op ≠ 69 by lia)
  | i8 => exact (show (33 : Int) ≠ 69 by decide)
  | i4 => exact (show (32 : Int) ≠ 69 by decide)
  | loc => exact (show (65036 : Int) ≠ 69 by decide)
  | br op n h => exact isBrN_ne h (show isBrN 69 = false by decide)
  | sw => trivial
theorem Ins.Ok.tgt {P : Params} {c : Int} {x : Ins} (h : x.Ok c) : ∀ g ∈ x.tgt P, 0 ≤ g ∧ g < c := by
  cases h with
  | none op h => rcases h with rfl | rfl <;> (intro g hg; simp [Ins.tgt, sort_0, sort_42] at hg)
  | i8 => intro g hg; simp [Ins.tgt, sort_33] at hg
  | i4 => intro g hg; simp [Ins.tgt, sort_32] at hg
  | loc => intro g hg; simp [Ins.tgt, sort_12] at hg
  | br op n h h0 h1 => intro g hg; simp [Ins.tgt, sort_br P h] at hg; lia
  | sw gs hl h => exact h
theorem Ins.Ok.pre {c : Int} {x : Ins} (h : x.Ok c) : prefixGoal x.op = -1 := by
  cases h with
  | none op h => rcases h with rfl | rfl <;> rfl
  | i8 => rfl
  | i4 => rfl
  | loc => rfl
  | br op n h h0 h1 => show prefixGoal op = -1; unfold prefixGoal; rw [if_neg (isBrN_ne h (by decide)), if_neg (isBrN_ne h (by decide))]
  | sw gs hl h => rfl
theorem Ins.Ok.brs {P : Params} {c : Int} {x : Ins} (h : x.Ok c) : (sortI P x.op == 5) = x.br := by
  cases h with
  | none op h => rcases h with rfl | rfl
                 · simp [Ins.op, Ins.br, sort_0, isBrN]
                 · simp [Ins.op, Ins.br, sort_42, isBrN]
  | i8 => simp [Ins.op, Ins.br, sort_33, isBrN]
  | i4 => simp [Ins.op, Ins.br, sort_32, isBrN]
  | loc => simp [Ins.op, Ins.br, sort_12, isBrN]
  | br op n h h0 h1 => simp [Ins.op, Ins.br, sort_br P h, h]
  | sw gs hl h => simp [Ins.op, Ins.br, sort_69]
section
variable {prog : Program} {w : World} {h₀ : Heap} {d : Nat} {σ : List Res} {P : MV → List Res → Prop}
theorem get_ins {cs : List Ins} {i : Nat} {x : Ins} (h : cs[i]? = some x) : (cs.map Ins.mv)[i]? = some x.mv := by rw [List.getElem?_map, h]; rfl
theorem C_form_of (X : X0 w h₀) {cs : List Ins} {c : Int} {i : Nat} {x : Ins} {t : MV} (hx : cs[i]? = some x) (ok : x.Ok c) (h : P (form0 x).mv σ) :
    CALL prog w h₀ (d + 5) σ (.ext (.ref 281)) [.list (cs.map Ins.mv), .int i, t] P := by
  refine CALL_fnL (fn_form_of X) X.lim rfl [Str.ofString "code", Str.ofString "i", Str.ofString "tokens"] [Str.ofString "op", Str.ofString "operand", Str.ofString "sort", Str.ofString "octet"] _ (gcons (g_op_sort X) (gcons (g_SO_NONE X) (gcons (g_SO_BRANCH X) (gcons (g_jump_octet X) (gcons (g_SO_SWITCH X) (gcons (g_SO_ARG X) (gcons (g_SO_LOCAL X) (gcons (g_il_check_index X) (gcons (g_sized_form X) (gcons (g_SO_I4 X) (gcons (g_check_signed X) (gcons (g_SO_I8 X) (gcons (g_SO_KIND X) (gcons (g_short_form X) (gcons (g_token_at X) gnil))))))))))))))) rfl (bind_form_of _) (by kernel_rfl) ?_
  walk_at "start"
  walk_at "w"
  cases x with
  | sw gs =>
    have hx := get_ins hx
    change _ = some (MV.tup [.int 69, .tup (gs.map .int)]) at hx
    refine SUB_list .frozen (by walk_at "om") hx ?_
    walk_at "w"
    refine SUB_list .frozen (by walk_at "om") hx ?_
    walk_at "w"
    refine C_op_sort X ?_
    rw [sort_69]
    walk_at "w"
    exact h
  | num op n =>
    have hx := get_ins hx
    change _ = some (MV.tup [.int op, .int n]) at hx
    refine SUB_list .frozen (by walk_at "om") hx ?_
    walk_at "w"
    refine SUB_list .frozen (by walk_at "om") hx ?_
    walk_at "w"
    refine C_op_sort X ?_
    cases ok with
    | none op e =>
      have ef : form0 (.num op 0) = ⟨op, 0, 0⟩ := by rcases e with rfl | rfl <;> rfl
      rw [show sortI w.params op = 0 by rcases e with rfl | rfl; exact sort_0 _; exact sort_42 _]
      rw [ef] at h
      walk_at "w"
      exact h
    | i8 n h0 h1 =>
      rw [sort_33]
      walk_at "w"
      refine C_check_signed X (.inr rfl) h0 h1 ?_
      walk_at "w"
      exact h
    | i4 n h0 h1 =>
      rw [sort_32]
      walk_at "w"
      refine C_check_signed X (.inl rfl) (by lia) h1 ?_
      walk_at "w"
      refine C_sized_form X ?_
      by_cases hn : n ≤ 127
      · exact .inl ⟨rfl, h0, hn, zk _ _ (by rw [show form0 (.num 32 n) = ⟨31, 1, n⟩ by simp [form0, isBrN, hn]] at h; exact h)⟩
      · exact .inr ⟨.inl ⟨rfl, by lia⟩, zk _ _ (by rw [show form0 (.num 32 n) = ⟨32, 4, n⟩ by simp [form0, isBrN, hn]] at h; exact h)⟩
    | loc n h0 h1 =>
      rw [sort_12]
      walk_at "w"
      refine C_check_index X (by lia) h1 ?_
      walk_at "w"
      exact C_sized_form X (.inr ⟨.inr ⟨rfl, h0⟩, zk _ _ h⟩)
    | br op n hb h0 h1 =>
      rw [sort_br _ hb]
      walk_at "w"
      refine C_jump_octet X ?_
      walk_at "w"
      rw [show form0 (.num op n) = ⟨jumpOctet op, 1, 0⟩ by simp [form0, hb]] at h
      exact h
end
section
variable {prog : Program} {w : World} {h₀ : Heap} {d : Nat} {σ : List Res} {P : MV → List Res → Prop}
theorem Ins.mv_op (x : Ins) : ∃ m, x.mv = .tup [.int x.op, m] := by cases x <;> exact ⟨_, rfl⟩
theorem rng_get {n : Nat} {i : Nat} {m : MV} (h : ((List.range n).map fun i : Nat => MV.int i)[i]? = some m) : i < n ∧ m = .int i := by
  rcases Nat.lt_or_ge i n with h' | h'
  · rw [List.getElem?_map, List.getElem?_range h'] at h
    cases h; exact ⟨h', rfl⟩
  · rw [List.getElem?_eq_none (by simpa using h')] at h; cases h
theorem map_get {α : Type} {l : List α} {f : α → MV} {i : Nat} {m : MV} (h : (l.map f)[i]? = some m) : ∃ x, l[i]? = some x ∧ m = f x := by
  rw [List.getElem?_map] at h
  obtain ⟨x, hx, e⟩ := Option.map_eq_some_iff.mp h
  exact ⟨x, hx, e.symm⟩
theorem ok_at {cs : List Ins} (ok : ∀ x ∈ cs, x.Ok cs.length) {i : Nat} (h : i < cs.length) : ∃ x, cs[i]? = some x ∧ x.Ok cs.length := ⟨cs[i], List.getElem?_eq_getElem h, ok _ (List.getElem_mem h)⟩
theorem C_check_code (X : X0 w h₀) {cs : List Ins} (hz : cs.length ≤ 100000) (ok : ∀ x ∈ cs, x.Ok cs.length) (h : P .none σ) :
    CALL prog w h₀ (d + 3) σ (.ext (.ref 260)) [.list (cs.map Ins.mv)] P := by
  refine CALL_fnL (fn_check_code X) X.lim rfl [Str.ofString "code"] [Str.ofString "count", Str.ofString "i", Str.ofString "goal", Str.ofString "wanted"] _ (gcons (g_len X) (gcons (g_range X) (gcons (g_targets X) (gcons (g_prefix_goal X) gnil)))) rfl (bind_check_code _) (by kernel_rfl) ?_
  walk_at "start"
  walk_at "w"
  refine X1_for (xs := (List.range cs.length).map fun i : Nat => .int i) (fun i ρ τ => ∃ o1 o2 o3, ρ = [(Str.ofString "code", some (.list (cs.map Ins.mv))), (Str.ofString "count", some (.int cs.length)), (Str.ofString "i", o1), (Str.ofString "goal", o2), (Str.ofString "wanted", o3)] ∧ τ = σ) ?_ ?_ ?_
  · walk_at "w"
    exact ⟨.rng _ (by walk_at "om") (by walk_at "om"), _, _, _, rfl, rfl⟩
  · rintro i m ρ τ hm ⟨o1, o2, o3, rfl, rfl⟩
    obtain ⟨hi, rfl⟩ := rng_get hm
    obtain ⟨x, hx, okx⟩ := ok_at ok hi
    walk_at "w"
    refine X1_for (xs := (x.tgt w.params).map .int) (fun _ ρ τ' => ∃ o2, ρ = [(Str.ofString "code", some (.list (cs.map Ins.mv))), (Str.ofString "count", some (.int cs.length)), (Str.ofString "i", some (.int i)), (Str.ofString "goal", o2), (Str.ofString "wanted", o3)] ∧ τ' = τ) ?_ ?_ ?_
    · walk_at "w"
      refine SUB_list .frozen (by walk_at "om") (get_ins hx) ?_
      walk_at "w"
      refine C_targets X okx.ok ?_
      exact ⟨.tup _, _, rfl, rfl⟩
    · rintro j m ρ τ hm ⟨o2, rfl, rfl⟩
      obtain ⟨g, hg, rfl⟩ := map_get hm
      have hg' := okx.tgt g (List.mem_of_getElem? hg)
      walk_at "w"
      · obtain ⟨y, hy, oky⟩ := ok_at ok (i := (g - 1).toNat) (by walk_at "om")
        refine SUB_list .frozen (by walk_at "om") (get_ins hy) ?_
        obtain ⟨m', e⟩ := y.mv_op
        rw [e]
        walk_at "w"
        refine C_prefix_goal X ?_
        rw [oky.pre]
        walk_at "w"
        exact ⟨_, rfl, rfl⟩
      · exact ⟨_, rfl, rfl⟩
    · rintro ρ τ ⟨o2, rfl, rfl⟩
      walk_at "w"
      refine SUB_list .frozen (by walk_at "om") (get_ins hx) ?_
      obtain ⟨m', e⟩ := x.mv_op
      rw [e]
      walk_at "w"
      refine C_prefix_goal X ?_
      rw [okx.pre]
      walk_at "w"
      exact ⟨_, _, _, rfl, rfl⟩
  · rintro ρ τ ⟨o1, o2, o3, rfl, rfl⟩
    walk_at "w"
    exact h
end
/-! lengths by which branches are long -/
noncomputable def sizeL (x : Ins) (b : Bool) : Int := formSize (formL x b).o (formL x b).wd x
noncomputable def formsL (cs : List Ins) (L : List Bool) : List MV := List.zipWith (fun x b => (formL x b).mv) cs L
noncomputable def sizesL (cs : List Ins) (L : List Bool) : List Int := List.zipWith sizeL cs L
noncomputable def offs (cs : List Ins) (L : List Bool) : List Int := offsL 0 (sizesL cs L)
noncomputable def offAt (cs : List Ins) (L : List Bool) (j : Nat) : Int := (offs cs L).getD j 0
noncomputable def far (cs : List Ins) (L : List Bool) (i : Nat) (n : Int) : Bool := farB (offAt cs L n.toNat - offAt cs L (i + 1))
def LeB (L G : List Bool) : Prop := L.length = G.length ∧ ∀ i : Nat, L[i]? = some true → G[i]? = some true
structure Settles (cs : List Ins) (G : List Bool) : Prop where
  len : G.length = cs.length
  up : ∀ L, LeB L G → ∀ (i : Nat) op n, cs[i]? = some (.num op n) → isBrN op = true → L[i]? = some false → far cs L i n = true → G[i]? = some true
  done : ∀ L, LeB L G → (∀ (i : Nat) op n, cs[i]? = some (.num op n) → isBrN op = true → L[i]? = some false → far cs L i n = false) → L = G
theorem LeB.refl (L : List Bool) : LeB L L := ⟨rfl, fun _ h => h⟩
theorem LeB.trans {L M G : List Bool} (a : LeB L M) (b : LeB M G) : LeB L G := ⟨a.1.trans b.1, fun i h => b.2 i (a.2 i h)⟩
theorem sizesL_length {cs : List Ins} {L : List Bool} (h : L.length = cs.length) : (sizesL cs L).length = cs.length := by simp [sizesL, h]
theorem offs_length {cs : List Ins} {L : List Bool} (h : L.length = cs.length) : (offs cs L).length = cs.length + 1 := by rw [offs, offsL_length, sizesL_length h]
theorem offs_get {cs : List Ins} {L : List Bool} (h : L.length = cs.length) {j : Nat} (hj : j ≤ cs.length) : (offs cs L)[j]? = some (offAt cs L j) := by
  have : j < (offs cs L).length := by rw [offs_length h]; lia
  rw [offAt, List.getD_eq_getElem?_getD, List.getElem?_eq_getElem this]; rfl
theorem formsL_get {cs : List Ins} {L : List Bool} {i : Nat} {x : Ins} {b : Bool} (h : cs[i]? = some x) (hb : L[i]? = some b) : (formsL cs L)[i]? = some (formL x b).mv := by
  rw [formsL, List.getElem?_zipWith, h, hb]
theorem formsL_set {cs : List Ins} {L : List Bool} {i : Nat} {x : Ins} (h : cs[i]? = some x) : (formsL cs L).set i (formL x true).mv = formsL cs (L.set i true) := by
  apply List.ext_getElem?
  intro j
  unfold formsL
  rw [List.getElem?_set, List.getElem?_zipWith, List.getElem?_zipWith, List.getElem?_set, List.length_zipWith]
  have hi : i < cs.length := (List.getElem?_eq_some_iff.mp h).1
  by_cases e : i = j
  · subst e
    rw [if_pos rfl, if_pos rfl, h]
    by_cases hl : i < L.length
    · rw [if_pos (by lia), if_pos hl]
    · rw [if_neg (by lia), if_neg hl]
  · rw [if_neg e, if_neg e]
theorem sizesL_set {cs : List Ins} {L : List Bool} {i : Nat} {x : Ins} (h : cs[i]? = some x) : (sizesL cs L).set i (sizeL x true) = sizesL cs (L.set i true) := by
  apply List.ext_getElem?
  intro j
  unfold sizesL
  rw [List.getElem?_set, List.getElem?_zipWith, List.getElem?_zipWith, List.getElem?_set, List.length_zipWith]
  have hi : i < cs.length := (List.getElem?_eq_some_iff.mp h).1
  by_cases e : i = j
  · subst e
    rw [if_pos rfl, if_pos rfl, h]
    by_cases hl : i < L.length
    · rw [if_pos (by lia), if_pos hl]
    · rw [if_neg (by lia), if_neg hl]
  · rw [if_neg e, if_neg e]
theorem count_set : ∀ {L : List Bool} {i : Nat}, L[i]? = some false → (L.set i true).count false < L.count false
  | [], _, h => by simp at h
  | b :: L, 0, h => by simp at h; subst h; simp
  | b :: L, i + 1, h => by
    rw [List.set_cons_succ, List.count_cons, List.count_cons]
    have := count_set (L := L) (i := i) (by simpa using h)
    lia
theorem LeB.set {L G : List Bool} {i : Nat} (h : LeB L G) (hg : G[i]? = some true) : LeB (L.set i true) G := by
  refine ⟨by rw [List.length_set]; exact h.1, fun j hj => ?_⟩
  rw [List.getElem?_set] at hj
  by_cases e : i = j
  · subst e; exact hg
  · rw [if_neg e] at hj; exact h.2 j hj
theorem LeB.set_self {L : List Bool} (i : Nat) : LeB L (L.set i true) := by
  refine ⟨by rw [List.length_set], fun j hj => ?_⟩
  rw [List.getElem?_set]
  by_cases e : i = j
  · subst e; rw [if_pos rfl, if_pos (List.getElem?_eq_some_iff.mp hj).1]
  · rw [if_neg e]; exact hj
section
variable {prog : Program} {w : World} {h₀ : Heap} {d : Nat} {σ : List Res} {P : MV → List Res → Prop}
theorem CALL_permP {fn : MV} {args : List MV} (h : CALL prog w h₀ d σ fn args (fun m σ' => ∃ σ2, σ2.Perm σ' ∧ P m σ2)) : CALL prog w h₀ d σ fn args P := by
  intro A s Φ F E Q vs N R kk
  refine h A s Φ F E Q vs N R ?_
  rintro v m σ' Φ1 h1 tk1 le1 rel1 rep1 ⟨σ2, hp, hpost⟩
  exact kk v m σ2 Φ1 h1 tk1 le1 (rel1.perm (hp.symm.append_right F)) rep1 hpost
theorem CALL_perm {fn : MV} {args : List MV} {σ' : List Res} (p : σ'.Perm σ) (h : CALL prog w h₀ d σ fn args P) : CALL prog w h₀ d σ' fn args P := JJ.perm h p
theorem C_offs (X : X0 w h₀) {a : Addr} {sizes : List Int} (hm : .list a (sizes.map .int) ∈ σ) (hz : sizes.length ≤ 100000) (h : ∀ b, P (.ref b) (.list b ((offsL 0 sizes).map .int) :: σ)) :
    CALL prog w h₀ (d + 1) σ (.ext (.ref 302)) [.ref a] P := by
  obtain ⟨s1, s2, e⟩ := List.append_of_mem hm
  have p : σ.Perm (.list a (sizes.map .int) :: (s1 ++ s2)) := by rw [e]; exact List.perm_middle
  refine CALL_perm p (CALL_permP (C_offsets_of X hz fun b => ⟨_, ?_, h b⟩))
  exact (List.Perm.cons _ p).trans (List.Perm.swap _ _ _)
end
section
variable {prog : Program} {w : World} {h₀ : Heap} {d : Nat} {σ : List Res} {P : MV → List Res → Prop}
theorem formL_true {x : Ins} (h : x.br = true) : formL x true = ⟨x.op, 4, 0⟩ := by simp [formL, h]
theorem bool_at {L : List Bool} {i : Nat} (h : i < L.length) : ∃ b, L[i]? = some b := ⟨_, List.getElem?_eq_getElem h⟩
abbrev stR (cs : List Ins) (a b ob : Addr) (L M : List Bool) (σ : List Res) : List Res := .list a (formsL cs L) :: .list b ((sizesL cs L).map .int) :: .list ob ((offs cs M).map .int) :: σ
noncomputable abbrev stL (cs : List Ins) (a b ob : Addr) (tb : Bool) (oi : Option MV) : Loc := [(Str.ofString "code", some (.list (cs.map Ins.mv))), (Str.ofString "forms", some (.ref a)), (Str.ofString "sizes", some (.ref b)), (Str.ofString "offsets", some (.ref ob)), (Str.ofString "turned", some (.bool tb)), (Str.ofString "i", oi)]
structure SetIn (cs : List Ins) (G L L' : List Bool) (i : Nat) (tb : Bool) : Prop where
  lo : LeB L L'
  hi : LeB L' G
  same : ∀ j : Nat, i ≤ j → L'[j]? = L[j]?
  no : tb = false → L' = L ∧ ∀ j : Nat, j < i → ∀ op n, cs[j]? = some (.num op n) → isBrN op = true → L[j]? = some false → far cs L j n = false
  yes : tb = true → L'.count false < L.count false
theorem SetIn.skip {cs : List Ins} {G L L' : List Bool} {i : Nat} {tb : Bool} (h : SetIn cs G L L' i tb) (k : ∀ op n, cs[i]? = some (.num op n) → isBrN op = true → L[i]? = some false → far cs L i n = false) : SetIn cs G L L' (i + 1) tb :=
  ⟨h.lo, h.hi, fun j hj => h.same j (by walk_at "om"), fun e => ⟨(h.no e).1, fun j hj op n hx hb hl => (Nat.lt_or_ge j i).elim (fun q => (h.no e).2 j q op n hx hb hl) fun q => by
    have : j = i := by lia
    subst this; exact k op n hx hb hl⟩, h.yes⟩
theorem SetIn.turn {cs : List Ins} {G L L' : List Bool} {i : Nat} {tb : Bool} {op n : Int} (S : Settles cs G) (h : SetIn cs G L L' i tb) (hx : cs[i]? = some (.num op n)) (hb : isBrN op = true) (hl : L[i]? = some false) (hf : far cs L i n = true) : SetIn cs G L (L'.set i true) (i + 1) true := by
  have hl' : L'[i]? = some false := by rw [h.same i (Nat.le_refl _)]; exact hl
  refine ⟨h.lo.trans (LeB.set_self i), h.hi.set (S.up L (h.lo.trans h.hi) i op n hx hb hl hf), fun j hj => ?_, fun e => (nomatch e), fun _ => ?_⟩
  · rw [List.getElem?_set, if_neg (by walk_at "om")]; exact h.same j (by walk_at "om")
  · have := count_set hl'
    cases htb : tb with
    | true => have := h.yes htb; lia
    | false => rw [(h.no htb).1] at this ⊢; exact this
theorem C_il_settle (X : X0 w h₀) {cs : List Ins} {G : List Bool} {a b : Addr} (hz : cs.length ≤ 100000) (ok : ∀ x ∈ cs, x.Ok cs.length) (S : Settles cs G)
    (h : ∀ ob, P (.ref ob) (stR cs a b ob G G σ)) :
    CALL prog w h₀ (d + 4) (.list a (formsL cs (List.replicate cs.length false)) :: .list b ((sizesL cs (List.replicate cs.length false)).map .int) :: σ) (.ext (.ref 316)) [.list (cs.map Ins.mv), .ref a, .ref b] P := by
  refine CALL_fnL (fn_il_settle X) X.lim rfl [Str.ofString "code", Str.ofString "forms", Str.ofString "sizes"] [Str.ofString "offsets", Str.ofString "turned", Str.ofString "i"] _ (gcons (g_offsets_of X) (gcons (g_range X) (gcons (g_len X) (gcons (g_is_branch X) (gcons (g_too_far X) (gcons (g_form_size X) gnil)))))) rfl (bind_il_settle _) (by kernel_rfl) ?_
  walk_at "start"
  have hr : (List.replicate cs.length false).length = cs.length := by simp
  walk_at "w"
  refine C_offs X (List.mem_cons_of_mem _ List.mem_cons_self) (by rw [sizesL_length hr]; exact hz) fun ob => ?_
  walk_at "w"
  refine X1_perm (σ := stR cs a b ob (List.replicate cs.length false) (List.replicate cs.length false) σ) ((List.Perm.swap _ _ _).trans (List.Perm.cons _ (List.Perm.swap _ _ _))) ?_
  refine X1_while (fun n ρ τ => ∃ L ob tb oi, ρ = stL cs a b ob tb oi ∧ τ = stR cs a b ob L L σ ∧ LeB L G ∧ (tb = false → L = G) ∧ n = if tb then L.count false + 1 else 0)
    (cs.length + 1) ⟨List.replicate cs.length false, ob, true, none, rfl, rfl, ⟨by rw [hr, S.len], fun i hi => ?_⟩, fun e => (nomatch e), by simp⟩ ?_
  · rw [List.getElem?_replicate] at hi; split at hi <;> simp at hi
  rintro n ρ τ ⟨L, ob, tb, oi, rfl, rfl, hLG, hfin, rfl⟩
  have hLl : L.length = cs.length := hLG.1.trans S.len
  walk_at "w"
  · rename_i ht
    subst ht
    refine X1_for (xs := (List.range cs.length).map fun i : Nat => .int i) (fun i ρ τ => ∃ L' tb oi, ρ = stL cs a b ob tb oi ∧ τ = stR cs a b ob L' L σ ∧ SetIn cs G L L' i tb) ?_ ?_ ?_
    · walk_at "w"
      exact ⟨.rng _ (by walk_at "om") (by walk_at "om"), L, false, oi, rfl, rfl, LeB.refl L, hLG, fun _ _ => rfl, fun _ => ⟨rfl, fun j hj => absurd hj (by walk_at "om")⟩, fun e => (nomatch e)⟩
    · rintro i m ρ τ hm ⟨L', tb, oi, rfl, rfl, hS⟩
      obtain ⟨hi, rfl⟩ := rng_get hm
      obtain ⟨x, hx, okx⟩ := ok_at ok hi
      obtain ⟨b0, hb0⟩ := bool_at (L := L) (i := i) (by walk_at "om")
      have hb0' : L'[i]? = some b0 := by rw [hS.same i (Nat.le_refl _)]; exact hb0
      have sub1 := formsL_get hx hb0'
      have sub2 := get_ins hx
      walk_at "w"
      cases x with
      | sw gs =>
        refine SUB_list (IsL.at (by walk_at "mem")) (by walk_at "om") sub1 ?_
        rw [show (formL (.sw gs) b0).mv = .tup [.int 69, .int (-1), .int 0] by cases b0 <;> rfl]
        walk_at "w"
        exact ⟨L', tb, _, rfl, rfl, hS.skip fun op n e => by rw [hx] at e; cases e⟩
      | num op n =>
        refine SUB_list (IsL.at (by walk_at "mem")) (by walk_at "om") sub1 ?_
        change _ = some (MV.tup [.int op, .int n]) at sub2
        rw [Form.mv]
        walk_at "w"
        · refine SUB_list .frozen (by walk_at "om") sub2 ?_
          walk_at "w"
          refine C_is_branch X ?_
          have hbr := okx.brs (P := w.params)
          change (sortI w.params op == 5) = isBrN op at hbr
          rw [hbr]
          walk_at "w"
          · rename_i hwd hisb
            have hb : b0 = false := by
              cases b0 with
              | false => rfl
              | true => rw [formL_true (x := .num op n) hisb] at hwd; simp at hwd
            subst hb
            cases okx with
            | none op e => rcases e with rfl | rfl <;> simp [isBrN] at hisb
            | i8 => simp [isBrN] at hisb
            | i4 => simp [isBrN] at hisb
            | loc => simp [isBrN] at hisb
            | br op n _ hn0 hn1 =>
            refine SUB_list .frozen (by walk_at "om") sub2 ?_
            walk_at "w"
            refine C_too_far X (offs := offs cs L) (a := offAt cs L n.toNat) (b := offAt cs L (i + 1)) (IsL.at (by walk_at "mem")) hn0 (by walk_at "om") (offs_get hLl (by walk_at "om")) ?_ ?_
            · rw [show ((i : Int) + 1).toNat = i + 1 by lia]; exact offs_get hLl (by walk_at "om")
            walk_at "w"
            · rename_i hfar
              refine SUB_list .frozen (by walk_at "om") sub2 ?_
              walk_at "w"
              refine AS_sub ?_
              walk_at "w"
              rw [show MV.tup [.int op, .int 4, .int 0] = (formL (.num op n) true).mv by rw [formL_true (x := .num op n) hisb]; rfl]
              refine SETI_list (i := (i : Int)) (xs := formsL cs L') (m := (formL (.num op n) true).mv) .head (by walk_at "om") (by have : (formsL cs L').length = cs.length := (by rw [formsL, List.length_zipWith, ← hS.lo.1]; lia); lia) ?_
              rw [Int.toNat_natCast, formsL_set hx]
              have sub3 := formsL_get (L := L'.set i true) hx (by rw [List.getElem?_set, if_pos rfl, if_pos (by rw [hS.lo.1.symm]; lia)])
              walk_at "w"
              refine SUB_list (IsL.at (by walk_at "mem")) (by walk_at "om") sub3 ?_
              walk_at "w"
              refine SUB_list .frozen (by walk_at "om") sub2 ?_
              walk_at "w"
              refine C_form_size (x := .num op n) X (fun hneg => ?_) ?_
              · rw [formL_true (x := .num op n) hisb] at hneg; simp at hneg
              walk_at "w"
              refine AS_sub ?_
              walk_at "w"
              refine SETI_list (i := (i : Int)) (m := .int (sizeL (.num op n) true)) (.tail .head) (by walk_at "om") (by have : (sizesL cs L').length = cs.length := sizesL_length (hS.lo.1.symm.trans hLl); rw [List.length_map]; lia) ?_
              rw [Int.toNat_natCast, ← List.map_set, sizesL_set hx]
              walk_at "w"
              exact ⟨_, true, _, rfl, rfl, hS.turn S hx hisb hb0 hfar⟩
            · rename_i hfar
              exact ⟨L', tb, _, rfl, rfl, hS.skip fun op' n' e hb' hl => by rw [hx] at e; cases e; exact hfar⟩
          · rename_i hwd hisb
            exact ⟨L', tb, _, rfl, rfl, hS.skip fun op' n' e hb' => by rw [hx] at e; cases e; rw [hisb] at hb'; cases hb'⟩
        · rename_i hwd
          exact ⟨L', tb, _, rfl, rfl, hS.skip fun op' n' e hb' hl => by
            rw [hx] at e; cases e
            rw [hb0] at hl; cases hl
            simp [formL, form0, hb'] at hwd⟩
    · rintro ρ τ ⟨L', tb, oi, rfl, rfl, hS⟩
      rw [List.length_map, List.length_range] at hS
      walk_at "w"
      · rename_i htb
        refine C_offs X (sizes := sizesL cs L') (List.mem_cons_of_mem _ List.mem_cons_self) (by rw [sizesL_length (hS.hi.1.trans S.len)]; exact hz) fun ob' => ?_
        walk_at "s"
        walk_at "s"
        refine XV_perm (σ := .list ob ((offs cs L).map .int) :: stR cs a b ob' L' L' σ) ?_ (XV_forget ?_)
        · have p : ∀ x a b c : Res, (x :: a :: b :: c :: σ).Perm (c :: a :: b :: x :: σ) := fun x a b c =>
            ((((List.Perm.swap a x _).trans ((List.Perm.swap b x _).cons a)).trans (((List.Perm.swap c x _).cons b).cons a)).trans ((List.Perm.swap c b _).cons a)).trans (List.Perm.swap c a _)
          exact p _ _ _ _
        walk_at "w"
        subst htb
        have := hS.yes rfl
        exact ⟨L'.count false + 1, by simp; lia, L', ob', true, _, rfl, rfl, hS.hi, fun e => (nomatch e), rfl⟩
      · rename_i htb
        subst htb
        obtain ⟨e, hno⟩ := hS.no rfl
        subst e
        have e := S.done _ hLG fun i op n hx hb hl => hno i (List.getElem?_eq_some_iff.mp hx).1 op n hx hb hl
        exact ⟨0, by simp, _, ob, false, _, rfl, rfl, hLG, fun _ => e, rfl⟩
  · rename_i htb
    have e := hfin htb
    subst e
    walk_at "w"
    exact h ob
end
noncomputable def le (n : Int) (w : Nat) : List Int := (List.range w).map fun j => n / 256 ^ j % 256
theorem le_succ (n : Int) (w : Nat) : le n (w + 1) = le n w ++ [n / 256 ^ w % 256] := by simp [le, List.range_succ]
theorem le_length (n : Int) (w : Nat) : (le n w).length = w := by simp [le]
theorem byteArr_snoc (ns : List Int) (n : Int) : byteArr (ns ++ [n]) = (byteArr ns).push n.toNat.toUInt8 := by simp [byteArr]
theorem shr_eq (n : Int) (j : Nat) : n.fdiv (2 ^ (8 * (j : Int)).toNat) = n / 256 ^ j := by
  have e : (8 * (j : Int)).toNat = 8 * j := by lia
  rw [e, Int.fdiv_eq_ediv_of_nonneg _ (by exact Int.le_of_lt (Int.pow_pos (by decide)))]
  congr 1
  rw [Int.pow_mul]
  rfl
section
variable {prog : Program} {w : World} {h₀ : Heap} {d : Nat} {env : Env} {γ : List (Str × MV)} {ρ : Loc} {σ : List Res} {P : FL → Loc → List Res → Prop} {rest : List Stmt} {v : MV}
theorem Cnc_next (h : XVc prog w h₀ d env γ ρ σ rest P) : Cnc prog w h₀ d env γ rest P .next ρ σ := h
end
section
variable {prog : Program} {w : World} {h₀ : Heap} {d : Nat} {f : FrS} {σ : List Res} {P : MV → List Res → Prop} {pos npos : Pos}
theorem EVc_callG {x : Str} {e : Expr} {es : List Expr} {u : Value} (hx : (x, .ext u) ∈ f.γ) (hk : Kp h₀ u) (h : EVs prog w h₀ d f σ pos (e :: es) (fun ms σ2 => CALLc prog w h₀ d σ2 (.ext u) ms P))
    (he : ∀ env, eval (.Call (.Name x npos) (e :: es) [] pos) env = (do callWith pos (← eval (.Name x npos) env) [] (backTo pos (starEach (e :: es) env)) (backToKw pos (keywordEach [] env))) := by intro _; rfl)
    (he2 : ∀ env, starEach (e :: es) env = (false, eval e env) :: starEach es env := by intro _; rfl) (hplain : ∀ env, (backTo pos (starEach es env)).any (·.1) = false := by intro _; rfl) : EVc prog w h₀ d f σ (.Call (.Name x npos) (e :: es) [] pos) P :=
  EVc_call hk (EV_glob hx ⟨rfl, h⟩) he he2 hplain
end
section
variable {prog : Program} {w : World} {h₀ : Heap} {d : Nat} {σ : List Res} {P : MV → List Res → Prop}
theorem C_put_number (X : X0 w h₀) {a : Addr} {ns : List Int} {n : Int} {wd : Nat} (hz : ns.length + wd ≤ 100000) (h : P .none (.barr a (byteArr (ns ++ le n wd)) :: σ)) :
    CALLc prog w h₀ (d + 1) (.barr a (byteArr ns) :: σ) (.ext (.ref 323)) [.ref a, .int n, .int wd] P := by
  refine CALLc_fnL (fn_il_put_number X) X.lim rfl [Str.ofString "out", Str.ofString "n", Str.ofString "width"] [Str.ofString "place"] _ (gcons (g_range X) gnil) rfl (bind_il_put_number _) (by kernel_rfl) ?_
  walk_at "start"
  refine XVc_cons ?_
  refine X1c_for (xs := (List.range wd).map fun i : Nat => .int i) (fun i ρ τ => ∃ o1, ρ = [(Str.ofString "out", some (.ref a)), (Str.ofString "n", some (.int n)), (Str.ofString "width", some (.int wd)), (Str.ofString "place", o1)] ∧ τ = .barr a (byteArr (ns ++ le n i)) :: σ) ?_ ?_ ?_
  · walk_at "w"
    refine ⟨.rng _ (by walk_at "om") (by walk_at "om"), none, rfl, ?_⟩
    rw [show le n 0 = [] from rfl, List.append_nil]
  · rintro i m ρ τ hm ⟨o1, rfl, rfl⟩
    obtain ⟨hi, rfl⟩ := rng_get hm
    walk_at "w"
    refine XVc_cons (X1c_expr ?_ (by with_unfolding_all rfl) (by with_unfolding_all rfl))
    refine EVc_meth (u := .builtin "bytearray.append") Kp_builtin ?_
    walk_at "w"
    refine ⟨HM_ba_append List.mem_cons_self, ?_⟩
    walk_at "w"
    refine BIN_shr (by walk_at "om") ?_
    rw [shr_eq]
    refine EV_int ?_
    refine BIN_and255 ?_
    walk_at "w"
    refine CALLc_ba_append .head (by walk_at "om") (by walk_at "om") (by rw [byteArr_size, List.length_append, le_length]; unfold sizeLine; lia) ?_
    refine ⟨rfl, XVc_nil ⟨_, rfl, ?_⟩⟩
    rw [le_succ, ← List.append_assoc, byteArr_snoc]
  · rintro ρ τ ⟨o1, rfl, rfl⟩
    rw [List.length_map, List.length_range]
    exact XVc_nil h
theorem C_put_head (X : X0 w h₀) {a : Addr} {ns : List Int} {op : Int} (hz : ns.length + 2 ≤ 100000) (h : P .none (.barr a (byteArr (ns ++ ((if op ≥ 65024 then [254] else []) ++ [op % 256]))) :: σ)) :
    CALLc prog w h₀ (d + 1) (.barr a (byteArr ns) :: σ) (.ext (.ref 330)) [.ref a, .int op] P := by
  refine CALLc_fnL (fn_put_head X) X.lim rfl [Str.ofString "out", Str.ofString "op"] [] _ (gcons (g_TWO_OCTETS X) gnil) rfl (bind_put_head _) (by kernel_rfl) ?_
  walk_at "start"
  refine XVc_cons (X1c_if (TEc_of ?_))
  walk_at "w"
  · rename_i hc
    rw [if_pos hc] at h
    refine XVc_cons (X1c_expr ?_ (by with_unfolding_all rfl) (by with_unfolding_all rfl))
    refine EVc_meth (u := .builtin "bytearray.append") Kp_builtin ?_
    walk_at "w"
    refine ⟨HM_ba_append List.mem_cons_self, ?_⟩
    walk_at "w"
    refine CALLc_ba_append .head (by walk_at "om") (by walk_at "om") (by rw [byteArr_size]; unfold sizeLine; lia) ?_
    refine ⟨rfl, XVc_nil (Cnc_next ?_)⟩
    refine XVc_cons (X1c_expr ?_ (by with_unfolding_all rfl) (by with_unfolding_all rfl))
    refine EVc_meth (u := .builtin "bytearray.append") Kp_builtin ?_
    walk_at "w"
    refine ⟨HM_ba_append List.mem_cons_self, ?_⟩
    walk_at "w"
    refine BIN_and255 ?_
    walk_at "w"
    rw [← byteArr_snoc]
    refine CALLc_ba_append .head (by walk_at "om") (by walk_at "om") (by rw [byteArr_size, List.length_append]; unfold sizeLine; simp; lia) ?_
    refine ⟨rfl, XVc_nil ?_⟩
    rw [← byteArr_snoc, List.append_assoc]
    exact h
  · rename_i hc
    rw [if_neg hc] at h
    refine XVc_nil (Cnc_next ?_)
    refine XVc_cons (X1c_expr ?_ (by with_unfolding_all rfl) (by with_unfolding_all rfl))
    refine EVc_meth (u := .builtin "bytearray.append") Kp_builtin ?_
    walk_at "w"
    refine ⟨HM_ba_append List.mem_cons_self, ?_⟩
    walk_at "w"
    refine BIN_and255 ?_
    walk_at "w"
    refine CALLc_ba_append .head (by walk_at "om") (by walk_at "om") (by rw [byteArr_size]; unfold sizeLine; lia) ?_
    refine ⟨rfl, XVc_nil ?_⟩
    rw [← byteArr_snoc]
    exact h
end
theorem IsL.cons {σ : List Res} {v : MV} {xs : List MV} {r : Res} (h : IsL σ v xs) : IsL (r :: σ) v xs := h.elim .inl fun ⟨a, e, hm⟩ => .inr ⟨a, e, .tail _ hm⟩
noncomputable def headB (op : Int) : List Int := (if op ≥ 65024 then [254] else []) ++ [op % 256]
theorem headB_len (op : Int) : (headB op).length ≤ 2 := by unfold headB; split <;> simp
section
variable {prog : Program} {w : World} {h₀ : Heap} {d : Nat} {σ : List Res} {P : MV → List Res → Prop}
theorem C_put_form_num (X : X0 w h₀) {a : Addr} {vo : MV} {os ns : List Int} {o v op n on e : Int} {k i : Nat} (I : IsL σ vo (os.map .int)) (hk : k ≤ 8) (hb : (sortI w.params op == 5) = isBrN op)
    (hbr : isBrN op = true → 0 ≤ n ∧ os[n.toNat]? = some on ∧ os[i + 1]? = some e) (hz : ns.length + 10 ≤ 100000)
    (h : P .none (.barr a (byteArr (ns ++ (headB o ++ (if isBrN op = true then le (on - e) k else le v k)))) :: σ)) :
    CALLc prog w h₀ (d + 2) (.barr a (byteArr ns) :: σ) (.ext (.ref 337)) [.ref a, .tup [.int o, .int k, .int v], .tup [.int op, .int n], vo, .int i] P := by
  refine CALLc_fnL (fn_put_form X) X.lim rfl [Str.ofString "out", Str.ofString "form", Str.ofString "ins", Str.ofString "offsets", Str.ofString "i"] [Str.ofString "goal"] _ (gcons (g_put_head X) (gcons (g_il_put_number X) (gcons (g_len X) (gcons (g_is_branch X) gnil)))) rfl (bind_put_form _) (by kernel_rfl) ?_
  walk_at "start"
  have hhd := headB_len o
  refine XVc_cons (X1c_expr ?_ (by with_unfolding_all rfl) (by with_unfolding_all rfl))
  refine EVc_callG (by walk_at "mem") (by walk_at "kp") ?_
  walk_at "w"
  refine C_put_head X (by walk_at "om") ?_
  refine ⟨rfl, Cnc_next ?_⟩
  refine XVc_cons (X1c_if (TEc_of ?_))
  walk_at "w"
  refine XVc_cons (X1c_if (TEc_of ?_))
  walk_at "w"
  refine C_is_branch X ?_
  rw [hb]
  walk_at "w"
  · rename_i hc
    rw [if_pos hc] at h
    obtain ⟨h0, h1, h2⟩ := hbr hc
    refine XVc_cons (X1c_expr ?_ (by with_unfolding_all rfl) (by with_unfolding_all rfl))
    refine EVc_callG (by walk_at "mem") (by walk_at "kp") ?_
    walk_at "w"
    refine SUB_list I.cons h0 (get_map h1) ?_
    walk_at "w"
    refine SUB_list I.cons (by walk_at "om") (get_map (k := i + 1) h2) ?_
    walk_at "w"
    refine C_put_number X (by rw [List.length_append]; unfold headB at hhd; lia) ?_
    refine ⟨rfl, XVc_nil (XVc_nil (Cnc_next (XVc_nil ?_)))⟩
    change P .none (.barr a (byteArr ((ns ++ headB o) ++ _)) :: σ)
    rw [List.append_assoc]
    exact h
  · rename_i hc
    rw [if_neg (by rw [hc]; decide)] at h
    refine XVc_cons (X1c_expr ?_ (by with_unfolding_all rfl) (by with_unfolding_all rfl))
    refine EVc_callG (by walk_at "mem") (by walk_at "kp") ?_
    walk_at "w"
    refine C_put_number X (by rw [List.length_append]; unfold headB at hhd; lia) ?_
    refine ⟨rfl, XVc_nil (XVc_nil (Cnc_next (XVc_nil ?_)))⟩
    change P .none (.barr a (byteArr ((ns ++ headB o) ++ _)) :: σ)
    rw [List.append_assoc]
    exact h
theorem flat_len (gs : List Int) (f : Int → Int) : (gs.flatMap fun g => le (f g) 4).length = 4 * gs.length := by
  induction gs with
  | nil => rfl
  | cons g gs ih => rw [List.flatMap_cons, List.length_append, ih, le_length, List.length_cons]; lia
theorem C_put_form_sw (X : X0 w h₀) {a : Addr} {vo : MV} {os ns : List Int} {gs : List Int} {O : Nat → Int} {e : Int} {i : Nat} (I : IsL σ vo (os.map .int)) (hl : gs.length ≤ 1000)
    (hg : ∀ g ∈ gs, 0 ≤ g ∧ os[g.toNat]? = some (O g.toNat)) (he : os[i + 1]? = some e) (hz : ns.length + 10 + 4 * gs.length ≤ 100000)
    (h : P .none (.barr a (byteArr (ns ++ (headB 69 ++ (le gs.length 4 ++ gs.flatMap fun g => le (O g.toNat - e) 4)))) :: σ)) :
    CALLc prog w h₀ (d + 2) (.barr a (byteArr ns) :: σ) (.ext (.ref 337)) [.ref a, .tup [.int 69, .int (-1), .int 0], .tup [.int 69, .tup (gs.map .int)], vo, .int i] P := by
  refine CALLc_fnL (fn_put_form X) X.lim rfl [Str.ofString "out", Str.ofString "form", Str.ofString "ins", Str.ofString "offsets", Str.ofString "i"] [Str.ofString "goal"] _ (gcons (g_put_head X) (gcons (g_il_put_number X) (gcons (g_len X) (gcons (g_is_branch X) gnil)))) rfl (bind_put_form _) (by kernel_rfl) ?_
  walk_at "start"
  have hhd := headB_len 69
  refine XVc_cons (X1c_expr ?_ (by with_unfolding_all rfl) (by with_unfolding_all rfl))
  refine EVc_callG (by walk_at "mem") (by walk_at "kp") ?_
  walk_at "w"
  refine C_put_head X (by walk_at "om") ?_
  refine ⟨rfl, Cnc_next ?_⟩
  change XVc _ _ _ _ _ _ _ (.barr a (byteArr (ns ++ headB 69)) :: σ) _ _
  refine XVc_cons (X1c_if (TEc_of ?_))
  walk_at "w"
  refine XVc_cons (X1c_expr ?_ (by with_unfolding_all rfl) (by with_unfolding_all rfl))
  refine EVc_callG (by walk_at "mem") (by walk_at "kp") ?_
  walk_at "w"
  rw [List.length_map]
  refine C_put_number X (wd := 4) (by rw [List.length_append]; lia) ?_
  refine ⟨rfl, Cnc_next ?_⟩
  refine XVc_cons ?_
  refine X1c_for (xs := gs.map .int) (fun j ρ τ => ∃ o1, ρ = [(Str.ofString "out", some (.ref a)), (Str.ofString "form", some (.tup [.int 69, .int (-1), .int 0])), (Str.ofString "ins", some (.tup [.int 69, .tup (gs.map .int)])), (Str.ofString "offsets", some vo), (Str.ofString "i", some (.int i)), (Str.ofString "goal", o1)] ∧ τ = .barr a (byteArr ((ns ++ headB 69 ++ le gs.length 4) ++ (gs.take j).flatMap fun g => le (O g.toNat - e) 4)) :: σ) ?_ ?_ ?_
  · walk_at "w"
    refine ⟨.tup _, none, rfl, ?_⟩
    rw [List.take_zero, List.flatMap_nil, List.append_nil]
  · rintro j m ρ τ hm ⟨o1, rfl, rfl⟩
    obtain ⟨g, hgj, rfl⟩ := map_get hm
    obtain ⟨h0, h1⟩ := hg g (List.mem_of_getElem? hgj)
    walk_at "w"
    refine XVc_cons (X1c_expr ?_ (by with_unfolding_all rfl) (by with_unfolding_all rfl))
    refine EVc_callG (by walk_at "mem") (by walk_at "kp") ?_
    walk_at "w"
    refine SUB_list I.cons h0 (get_map h1) ?_
    walk_at "w"
    refine SUB_list I.cons (by walk_at "om") (get_map (k := i + 1) he) ?_
    walk_at "w"
    refine C_put_number X (wd := 4) ?_ ?_
    · have : (gs.take j).length ≤ gs.length := by rw [List.length_take]; lia
      rw [List.length_append, flat_len, List.length_append, List.length_append, le_length]
      lia
    refine ⟨rfl, XVc_nil ⟨_, rfl, ?_⟩⟩
    rw [List.take_add_one, hgj, Option.toList_some, List.flatMap_append, List.flatMap_singleton, ← List.append_assoc]
  · rintro ρ τ ⟨o1, rfl, rfl⟩
    rw [List.length_map, List.take_length]
    refine XVc_nil (XVc_nil ?_)
    rw [List.append_assoc, List.append_assoc]
    exact h
end
noncomputable def rowB (x : Ins) (b : Bool) (O : Nat → Int) (e : Int) : List Int := match x with
  | .sw gs => headB 69 ++ (le gs.length 4 ++ gs.flatMap fun g => le (O g.toNat - e) 4)
  | .num op n => headB (formL (.num op n) b).o ++ (if isBrN op = true then le (O n.toNat - e) (formL (.num op n) b).wd.toNat else le (formL (.num op n) b).v (formL (.num op n) b).wd.toNat)
noncomputable def rowAt (cs : List Ins) (G : List Bool) (j : Nat) : List Int := match cs[j]?, G[j]? with
  | some x, some b => rowB x b (offAt cs G) (offAt cs G (j + 1))
  | _, _ => []
noncomputable def encTo (cs : List Ins) (G : List Bool) (i : Nat) : List Int := (List.range i).flatMap (rowAt cs G)
theorem encTo_succ (cs : List Ins) (G : List Bool) (i : Nat) : encTo cs G (i + 1) = encTo cs G i ++ rowAt cs G i := by simp [encTo, List.range_succ]
theorem encTo_mono (cs : List Ins) (G : List Bool) {i n : Nat} (h : i ≤ n) : (encTo cs G i).length ≤ (encTo cs G n).length := by
  induction n with
  | zero => have : i = 0 := by lia
            subst this; exact Nat.le_refl _
  | succ n ih =>
    rcases Nat.lt_or_ge i (n + 1) with q | q
    · rw [encTo_succ, List.length_append]; have := ih (by lia); lia
    · have : i = n + 1 := by lia
      subst this; exact Nat.le_refl _
theorem formL_false (x : Ins) : formL x false = form0 x := by simp [formL]
theorem form0_wd {op n : Int} : 0 ≤ (form0 (.num op n)).wd ∧ (form0 (.num op n)).wd ≤ 8 := by
  simp only [form0]
  repeat' split
  all_goals simp
theorem formL_wd {op n : Int} {b : Bool} : 0 ≤ (formL (.num op n) b).wd ∧ (formL (.num op n) b).wd ≤ 8 := by
  unfold formL
  split
  · simp
  · exact form0_wd
theorem formsL_rep (cs : List Ins) : formsL cs (List.replicate cs.length false) = cs.map fun x => (form0 x).mv := by
  induction cs with
  | nil => rfl
  | cons x cs ih => simp only [formsL, List.length_cons, List.replicate_succ, List.zipWith_cons_cons, List.map_cons, formL_false] at ih ⊢; rw [ih]
theorem sizesL_rep (cs : List Ins) : sizesL cs (List.replicate cs.length false) = cs.map fun x => sizeL x false := by
  induction cs with
  | nil => rfl
  | cons x cs ih => simp only [sizesL, List.length_cons, List.replicate_succ, List.zipWith_cons_cons, List.map_cons] at ih ⊢; rw [ih]
section
variable {prog : Program} {w : World} {h₀ : Heap} {d : Nat} {env : Env} {γ : List (Str × MV)} {ρ ρ' : Loc} {σ : List Res}
theorem XVc_freeze {ss : List Stmt} {P : FL → Loc → List Res → Prop} {r : Res} {a : Addr} {fv : MV} {τ : List Res} (hp : σ.Perm (r :: τ)) (hf : FrzR r a fv) (hl : FrzL a fv ρ ρ')
    (h : XVc prog w h₀ d env γ ρ' τ ss P) : XVc prog w h₀ d env γ ρ σ ss P := by
  intro A s Φ F Q vs N R kk
  have p1 : ((fr1 env γ ρ :: σ) ++ F).Perm (r :: ((fr1 env γ ρ :: τ) ++ F)) := ((List.Perm.cons _ hp).trans (List.Perm.swap _ _ _)).append_right F
  obtain ⟨Ψ, le, rel, rep⟩ := (N.rel.perm p1).freeze hf
  have rel' : Rel Ψ ((fr1 env γ ρ' :: τ) ++ F) s.heap := by
    refine Rel.change (r := fr1 env γ ρ) (r' := fr1 env γ ρ') rel (fun b o _ e => e) rfl (fun a ha => rel.live a (List.mem_append_left _ ha)) ?_
    exact FrOk.frz (rel.head (r := fr1 env γ ρ)) (.refl Ψ) rep hl
  exact h A s Ψ F Q vs (N.next le rel') (R.mono le) fun x m σ4 Φ4 h4 tk4 le4 rel4 rep4 hp => kk x m σ4 Φ4 h4 tk4 (le.trans le4) rel4 rep4 hp
end
section
variable {prog : Program} {w : World} {h₀ : Heap} {d : Nat} {σ : List Res} {P : MV → List Res → Prop}
theorem CALLc_forget {fn : MV} {args : List MV} (h : CALLc prog w h₀ d σ fn args (fun m σ' => ∃ r τ, σ'.Perm (r :: τ) ∧ P m τ)) : CALLc prog w h₀ d σ fn args P := by
  intro A s Φ F Q vs N R kk
  refine h A s Φ F Q vs N R ?_
  rintro v m σ' Φ1 h1 tk1 le1 rel1 rep1 ⟨r, τ, hp, hpost⟩
  exact kk v m τ Φ1 h1 tk1 le1 (rel1.perm (hp.append_right F)).drop rep1 hpost
theorem CALL_forget {fn : MV} {args : List MV} (h : CALL prog w h₀ d σ fn args (fun m σ' => ∃ r τ, σ'.Perm (r :: τ) ∧ P m τ)) : CALL prog w h₀ d σ fn args P := JJ.forget h
noncomputable abbrev enL (cs : List Ins) (t : MV) (a b : Addr) (o1 o2 o3 o4 : Option MV) : Loc := [(Str.ofString "code", some (.list (cs.map Ins.mv))), (Str.ofString "tokens", some t), (Str.ofString "forms", some (.ref a)), (Str.ofString "sizes", some (.ref b)), (Str.ofString "i", o1), (Str.ofString "form", o2), (Str.ofString "offsets", o3), (Str.ofString "out", o4)]
theorem C_encode (X : X0 w h₀) {cs : List Ins} {G : List Bool} {t : MV} (hz : cs.length ≤ 10000) (ok : ∀ x ∈ cs, x.Ok cs.length) (S : Settles cs G) (hB : (encTo cs G cs.length).length ≤ 50000)
    (h : P (.tup [.bytes (byteArr (encTo cs G cs.length)), .list ((offs cs G).map .int)]) σ) :
    CALLc prog w h₀ (d + 6) σ (.ext (.ref 344)) [.list (cs.map Ins.mv), t] P := by
  refine CALLc_forget ?_
  refine CALLc_fnL (fn_encode X) X.lim rfl [Str.ofString "code", Str.ofString "tokens"] [Str.ofString "forms", Str.ofString "sizes", Str.ofString "i", Str.ofString "form", Str.ofString "offsets", Str.ofString "out"] _ (gcons (g_check_code X) (gcons (g_range X) (gcons (g_len X) (gcons (g_form_of X) (gcons (g_form_size X) (gcons (g_il_settle X) (gcons (g_bytearray X) (gcons (g_put_form X) (gcons (g_bytes X) gnil))))))))) rfl (bind_encode _) (by kernel_rfl) ?_
  walk_at "start"
  refine XVc_cons (X1c_of ?_)
  walk_at "w"
  refine C_check_code X (by walk_at "om") ok ?_
  walk_at "w"
  refine Cnc_next ?_
  refine XVc_cons (X1c_of ?_)
  walk_at "w"
  refine EV_list (EVs_nil ⟨by decide, fun a => ?_⟩)
  walk_at "w"
  refine Cnc_next (XVc_cons (X1c_of ?_))
  walk_at "w"
  refine EV_list (EVs_nil ⟨by decide, fun b => ?_⟩)
  walk_at "w"
  refine Cnc_next (XVc_cons (X1c_of ?_))
  refine X1_for (xs := (List.range cs.length).map fun i : Nat => .int i) (fun i ρ τ => ∃ o1 o2, ρ = enL cs t a b o1 o2 none none ∧ τ = .list b (((cs.take i).map fun x => sizeL x false).map .int) :: .list a ((cs.take i).map fun x => (form0 x).mv) :: σ) ?_ ?_ ?_
  · walk_at "w"
    exact ⟨.rng _ (by walk_at "om") (by walk_at "om"), _, _, rfl, rfl⟩
  · rintro i m ρ τ hm ⟨o1, o2, rfl, rfl⟩
    obtain ⟨hi, rfl⟩ := rng_get hm
    obtain ⟨x, hx, okx⟩ := ok_at ok hi
    walk_at "w"
    refine C_form_of X hx okx ?_
    walk_at "w"
    refine EV_meth (u := .builtin "list.append") Kp_builtin ?_
    walk_at "w"
    refine ⟨HM_append (by walk_at "mem"), ?_⟩
    walk_at "w"
    refine CALL_append (by walk_at "upd") (by rw [List.length_map, List.length_take]; unfold sizeLine; lia) ?_
    walk_at "w"
    refine EV_meth (u := .builtin "list.append") Kp_builtin ?_
    walk_at "w"
    refine ⟨HM_append (by walk_at "mem"), ?_⟩
    walk_at "w"
    refine SUB_list .frozen (by walk_at "om") (get_ins hx) ?_
    walk_at "w"
    refine C_form_size (x := x) X ?_ ?_
    · intro hneg
      cases x with
      | num op n => exact absurd (form0_wd (op := op) (n := n)).1 (by walk_at "om")
      | sw gs => exact ⟨gs, rfl⟩
    walk_at "w"
    refine CALL_append (by walk_at "upd") (by rw [List.length_map, List.length_map, List.length_take]; unfold sizeLine; lia) ?_
    walk_at "w"
    refine ⟨_, _, rfl, ?_⟩
    rw [List.take_add_one, hx, Option.toList_some, List.map_append, List.map_append, List.map_append]
    simp only [List.map_cons, List.map_nil, sizeL, formL_false]
  · rintro ρ τ ⟨o1, o2, rfl, rfl⟩
    rw [List.length_map, List.length_range, List.take_length, ← sizesL_rep, ← formsL_rep]
    refine Cnc_next (XVc_perm (List.Perm.swap _ _ _) (XVc_cons (X1c_of ?_)))
    walk_at "w"
    refine C_il_settle X (by walk_at "om") ok S fun ob => ?_
    walk_at "w"
    refine Cnc_next (XVc_cons (X1c_assign ?_ (by with_unfolding_all rfl) (by with_unfolding_all rfl) (by with_unfolding_all rfl)))
    refine EVc_call0 Kp_type (EV_glob (by walk_at "mem") ⟨rfl, CALLc_ba0 fun o => ?_⟩)
    walk_at "w"
    refine Cnc_next (XVc_cons ?_)
    refine X1c_for (xs := (List.range cs.length).map fun i : Nat => .int i) (fun i ρ τ => ∃ o1, ρ = enL cs t a b o1 o2 (some (.ref ob)) (some (.ref o)) ∧ τ = .barr o (byteArr (encTo cs G i)) :: stR cs a b ob G G σ) ?_ ?_ ?_
    · walk_at "w"
      exact ⟨.rng _ (by walk_at "om") (by walk_at "om"), _, rfl, rfl⟩
    · rintro i m ρ τ hm ⟨o1, rfl, rfl⟩
      obtain ⟨hi, rfl⟩ := rng_get hm
      obtain ⟨x, hx, okx⟩ := ok_at ok hi
      obtain ⟨b0, hb0⟩ := bool_at (L := G) (i := i) (by rw [S.len]; exact hi)
      have sub1 := formsL_get hx hb0
      have sub2 := get_ins hx
      have hlen := encTo_mono cs G (i := i) (n := cs.length) (by walk_at "om")
      walk_at "w"
      refine XVc_cons (X1c_expr ?_ (by with_unfolding_all rfl) (by with_unfolding_all rfl))
      refine EVc_callG (by walk_at "mem") (by walk_at "kp") ?_
      walk_at "w"
      refine SUB_list (IsL.at (by walk_at "mem")) (by walk_at "om") sub1 ?_
      walk_at "w"
      refine SUB_list .frozen (by walk_at "om") sub2 ?_
      walk_at "w"
      have hob : IsL (stR cs a b ob G G σ) (.ref ob) ((offs cs G).map .int) := IsL.at (by walk_at "mem")
      have hoe : (offs cs G)[i + 1]? = some (offAt cs G (i + 1)) := offs_get S.len (by walk_at "om")
      cases x with
      | sw gs =>
        rw [show (formL (.sw gs) b0).mv = .tup [.int 69, .int (-1), .int 0] by cases b0 <;> rfl]
        cases okx with | sw _ hgl hg => ?_
        refine C_put_form_sw (O := offAt cs G) (e := offAt cs G (i + 1)) X hob hgl (fun g hg' => ⟨(hg g hg').1, offs_get S.len (by have := hg g hg'; lia)⟩) hoe (by walk_at "om") ?_
        refine ⟨rfl, XVc_nil ⟨_, rfl, ?_⟩⟩
        rw [encTo_succ, rowAt, hx, hb0]
        rfl
      | num op n =>
        have hwd := formL_wd (op := op) (n := n) (b := b0)
        obtain ⟨k, hk⟩ : ∃ k : Nat, (formL (.num op n) b0).wd = k := ⟨_, (Int.toNat_of_nonneg hwd.1).symm⟩
        rw [show (formL (.num op n) b0).mv = .tup [.int (formL (.num op n) b0).o, .int k, .int (formL (.num op n) b0).v] by rw [Form.mv, hk]]
        refine C_put_form_num (on := offAt cs G n.toNat) (e := offAt cs G (i + 1)) X hob (by walk_at "om") (okx.brs (P := w.params)) (fun hbr => ?_) (by walk_at "om") ?_
        · cases okx with
          | none op e => rcases e with rfl | rfl <;> simp [isBrN] at hbr
          | i8 => simp [isBrN] at hbr
          | i4 => simp [isBrN] at hbr
          | loc => simp [isBrN] at hbr
          | br op n _ hn0 hn1 => exact ⟨hn0, offs_get S.len (by walk_at "om"), hoe⟩
        refine ⟨rfl, XVc_nil ⟨_, rfl, ?_⟩⟩
        rw [encTo_succ, rowAt, hx, hb0]
        show _ = Res.barr o (byteArr (encTo cs G i ++ rowB (.num op n) b0 _ _)) :: _
        rw [rowB, hk]
        rfl
    · rintro ρ τ ⟨o1, rfl, rfl⟩
      rw [List.length_map, List.length_range]
      refine Cnc_next (XVc_perm (σ := .list a (formsL cs G) :: .list b ((sizesL cs G).map .int) :: .barr o (byteArr (encTo cs G cs.length)) :: .list ob ((offs cs G).map .int) :: σ) ?_ (XVc_forget (XVc_forget ?_)))
      · exact (List.Perm.swap _ _ _).trans ((List.Perm.swap _ _ _).cons _)
      refine XVc_freeze (List.Perm.swap _ _ _) (.list ob _) (by walk_at "frz") ?_
      refine XVc_of ?_
      walk_at "w"
      refine CALL_bytes_ba List.mem_cons_self ?_
      walk_at "w"
      exact ⟨_, _, .refl _, h⟩
end
/-! numbers in octets -/
noncomputable def leV : List Int → Int
  | [] => 0
  | a :: l => a + 256 * leV l
theorem leV_snoc : ∀ (l : List Int) (a : Int), leV (l ++ [a]) = leV l + a * 256 ^ l.length
  | [], a => by simp [leV]
  | b :: l, a => by
    rw [List.cons_append, leV, leV_snoc l a, leV, List.length_cons, Int.pow_succ, Int.mul_add, Int.add_assoc]
    congr 2
    rw [Int.mul_comm (256 ^ l.length) 256, ← Int.mul_assoc, ← Int.mul_assoc, Int.mul_comm 256 a]
theorem leV_le (n : Int) : ∀ w : Nat, leV (le n w) = n % 256 ^ w
  | 0 => by simp [le, leV, Int.emod_one]
  | w + 1 => by
    rw [le_succ, leV_snoc, leV_le n w, le_length, Int.pow_succ]
    have hp : (0 : Int) < 256 ^ w := Int.pow_pos (by decide)
    have h1 := Int.emod_add_mul_ediv n (256 ^ w * 256)
    have h2 := Int.emod_add_mul_ediv n (256 ^ w)
    have h3 := Int.emod_add_mul_ediv (n / 256 ^ w) 256
    rw [Int.ediv_ediv_of_nonneg (Int.le_of_lt hp)] at h3
    generalize n / (256 ^ w * 256) = q at *
    generalize n % (256 ^ w * 256) = r at *
    generalize n / 256 ^ w % 256 = b at *
    generalize n % 256 ^ w = c at *
    generalize n / 256 ^ w = k at *
    subst h3
    generalize (256 : Int) ^ w = p at *
    have e : p * (b + 256 * q) = b * p + p * 256 * q := by rw [Int.mul_add, Int.mul_comm p b, Int.mul_assoc]
    lia
def inB (D : List Int) : Prop := ∀ x ∈ D, 0 ≤ x ∧ x < 256
def Has (D : List Int) (i : Nat) (bs : List Int) : Prop := ∃ r, D.drop i = bs ++ r
theorem Has.append {D : List Int} {i : Nat} {a b : List Int} (h : Has D i (a ++ b)) : Has D i a ∧ Has D (i + a.length) b := by
  obtain ⟨r, e⟩ := h
  refine ⟨⟨b ++ r, by rw [e, List.append_assoc]⟩, r, ?_⟩
  rw [← List.drop_drop, e, List.append_assoc, List.drop_left]
theorem Has.len {D : List Int} {i : Nat} {a : List Int} (h : Has D i a) : i + a.length ≤ D.length ∨ a = [] := by
  obtain ⟨r, e⟩ := h
  have := congrArg List.length e
  rw [List.length_drop, List.length_append] at this
  rcases a with _ | ⟨x, a⟩
  · exact .inr rfl
  · rw [List.length_cons] at *; left; lia
theorem Has.at {D : List Int} {i j : Nat} {a : List Int} {x : Int} (h : Has D i a) (hx : a[j]? = some x) : D[i + j]? = some x := by
  obtain ⟨r, e⟩ := h
  have hj : j < a.length := (List.getElem?_eq_some_iff.mp hx).1
  have : (D.drop i)[j]? = some x := by rw [e, List.getElem?_append_left hj]; exact hx
  rw [List.getElem?_drop] at this
  exact this
theorem Has.cons {D : List Int} {i : Nat} {x : Int} {a : List Int} (h : Has D i (x :: a)) : Has D i [x] ∧ Has D (i + 1) a := Has.append (a := [x]) h
theorem byte_get {D : List Int} (hD : inB D) {i : Nat} {x : Int} (h : D[i]? = some x) : (((byteArr D).toList.getD i 0).toNat : Int) = x := by
  have hx := hD x (List.mem_of_getElem? h)
  have e : (byteArr D).toList.getD i 0 = x.toNat.toUInt8 := by
    simp [byteArr, List.getD_eq_getElem?_getD, List.getElem?_map, h]
  rw [e]
  simp
  lia
theorem mul_pow8 (x : Int) (i : Nat) : x * 2 ^ (8 * (i : Int)).toNat = x * 256 ^ i := by
  have e : (8 * (i : Int)).toNat = 8 * i := by lia
  rw [e, Int.pow_mul]
  rfl
noncomputable abbrev inp (x dx : Addr) (D : List Int) (i : Nat) : Res := .inst x dx 375 [(Str.ofString "data", .bytes (byteArr D)), (Str.ofString "at", .int i)]
section
variable {prog : Program} {w : World} {h₀ : Heap} {d : Nat} {f : FrS} {σ : List Res} {P : MV → List Res → Prop}
theorem EV_data {x dx : Addr} {D : List Int} {i : Nat} {nm : Str} {p1 p2 : Pos} (X : X0 w h₀) (ho : (nm, some (.ref x)) ∈ f.ρ) (hm : inp x dx D i ∈ σ) (h : P (.bytes (byteArr D)) σ) : EV prog w h₀ d f σ (.Attribute (.Name nm p1) (Str.ofString "data") p2) P :=
  EV_attr X.K (cls_CodeIn _) (ci_data _) (EV_name ho ⟨rfl, hm, rfl, (fun _ h => nomatch h), h⟩)
theorem EV_at {x dx : Addr} {D : List Int} {i : Nat} {nm : Str} {p1 p2 : Pos} (X : X0 w h₀) (ho : (nm, some (.ref x)) ∈ f.ρ) (hm : inp x dx D i ∈ σ) (h : P (.int i) σ) : EV prog w h₀ d f σ (.Attribute (.Name nm p1) (Str.ofString "at") p2) P :=
  EV_attr X.K (cls_CodeIn _) (ci_at _) (EV_name ho ⟨rfl, hm, rfl, (fun _ h => nomatch h), h⟩)
end
section
variable {prog : Program} {w : World} {h₀ : Heap} {d : Nat} {σ : List Res} {P : MV → List Res → Prop}
theorem C_number (X : X0 w h₀) {x dx : Addr} {D : List Int} {i wd : Nat} {v : Int} (hD : inB D) (hz : D.length ≤ 100000) (hw : wd ≤ 8) (hA : Has D i (le v wd)) (hi : i + wd ≤ D.length) (h : P (.int (v % 256 ^ wd)) (inp x dx D (i + wd) :: σ)) :
    CALL prog w h₀ (d + 1) (inp x dx D i :: σ) (.ext (.ref 365)) [.ref x, .int wd] P := by
  refine CALL_fnL (fn_CodeIn_number X) X.lim rfl [Str.ofString "self", Str.ofString "width"] [Str.ofString "n", Str.ofString "place"] _ (gcons (g_len X) (gcons (g_range X) gnil)) rfl (bind_CodeIn_number _) (by kernel_rfl) ?_
  walk_at "start"
  walk_at "w"
  refine EV_at X (by walk_at "mem") List.mem_cons_self ?_
  walk_at "w"
  refine EV_data X (by walk_at "mem") List.mem_cons_self ?_
  walk_at "w"
  rename_i hc
  · exfalso; rw [byteArr_size] at hc; lia
  refine X1_for (xs := (List.range wd).map fun i : Nat => .int i) (fun j ρ τ => ∃ o1, ρ = [(Str.ofString "self", some (.ref x)), (Str.ofString "width", some (.int wd)), (Str.ofString "n", some (.int (leV (le v j)))), (Str.ofString "place", o1)] ∧ τ = inp x dx D i :: σ) ?_ ?_ ?_
  · walk_at "w"
    exact ⟨.rng _ (by walk_at "om") (by walk_at "om"), _, rfl, rfl⟩
  · rintro j m ρ τ hm ⟨o1, rfl, rfl⟩
    obtain ⟨hj, rfl⟩ := rng_get hm
    walk_at "w"
    refine EV_data X (by walk_at "mem") List.mem_cons_self ?_
    walk_at "w"
    refine EV_at X (by walk_at "mem") List.mem_cons_self ?_
    walk_at "w"
    have hb : D[i + j]? = some (v / 256 ^ j % 256) := hA.at (by rw [le, List.getElem?_map, List.getElem?_range hj]; rfl)
    refine SUB_bytes (by walk_at "om") (by rw [byteArr_size]; lia) ?_
    rw [show ((i : Int) + j).toNat = i + j by lia, byte_get hD hb]
    walk_at "w"
    refine BIN_shl (by walk_at "om") (by walk_at "om") (by walk_at "om") ?_
    rw [mul_pow8]
    walk_at "w"
    exact ⟨_, by rw [le_succ, leV_snoc, le_length], rfl⟩
  · rintro ρ τ ⟨o1, rfl, rfl⟩
    rw [List.length_map, List.length_range, leV_le]
    walk_at "w"
    refine X1_aug_attr X.K (cls_CodeIn _) (ci_at _) (EV_name (by walk_at "mem") ⟨rfl, List.mem_cons_self, rfl, (fun _ h => nomatch h), ?_⟩)
    walk_at "w"
    refine SETA_inst (m := .int ((i + wd : Nat) : Int)) X.K (cls_CodeIn _) (ci_tat _) .head (show 2 < 1000 by decide) ?_
    walk_at "w"
    exact h
theorem C_signed (X : X0 w h₀) {x dx : Addr} {D : List Int} {i wd : Nat} {v : Int} (hD : inB D) (hz : D.length ≤ 100000) (hw : wd = 1 ∨ wd = 4 ∨ wd = 8) (hA : Has D i (le v wd)) (hi : i + wd ≤ D.length)
    (h0 : wd = 1 → -128 ≤ v ∧ v < 128) (h1 : -2147483648 ≤ v ∧ v < 2147483648) (h : P (.int v) (inp x dx D (i + wd) :: σ)) :
    CALL prog w h₀ (d + 2) (inp x dx D i :: σ) (.ext (.ref 372)) [.ref x, .int wd] P := by
  refine CALL_fnL (fn_CodeIn_signed X) X.lim rfl [Str.ofString "self", Str.ofString "width"] [Str.ofString "n"] _ gnil rfl (bind_CodeIn_signed _) (by kernel_rfl) ?_
  walk_at "start"
  walk_at "w"
  refine EV_meth (u := .ref 365) (by walk_at "kp") ?_
  walk_at "w"
  refine ⟨HM_inst X.K (cls_CodeIn _) (ci_number _) (ci_f365 _) List.mem_cons_self rfl, ?_⟩
  walk_at "w"
  obtain ⟨u, hu⟩ : ∃ u, u = v % 256 ^ wd := ⟨_, rfl⟩
  refine C_number X hD hz (by walk_at "om") hA hi ?_
  rw [← hu]
  walk_at "w"
  refine BIN_shl (by walk_at "om") (by walk_at "om") (by decide) ?_
  rcases hw with rfl | rfl | rfl
  · replace hu : u = v % 256 := hu
    have := h0 rfl
    rw [show (1 * 2 ^ (8 * ((1 : Nat) : Int) - 1).toNat : Int) = 128 by decide]
    walk_at "w"
    · refine BIN_shl (by walk_at "om") (by walk_at "om") (by decide) ?_
      rw [show (1 * 2 ^ (8 * ((1 : Nat) : Int)).toNat : Int) = 256 by decide]
      walk_at "w"
      rw [show u - 256 = v by lia]
      exact h
    · rw [show u = v by lia]
      exact h
  · replace hu : u = v % 4294967296 := hu
    rw [show (1 * 2 ^ (8 * ((4 : Nat) : Int) - 1).toNat : Int) = 2147483648 by decide]
    walk_at "w"
    · refine BIN_shl (by walk_at "om") (by walk_at "om") (by decide) ?_
      rw [show (1 * 2 ^ (8 * ((4 : Nat) : Int)).toNat : Int) = 4294967296 by decide]
      walk_at "w"
      rw [show u - 4294967296 = v by lia]
      exact h
    · rw [show u = v by lia]
      exact h
  · replace hu : u = v % 18446744073709551616 := hu
    rw [show (1 * 2 ^ (8 * ((8 : Nat) : Int) - 1).toNat : Int) = 9223372036854775808 by decide]
    walk_at "w"
    · refine BIN_shl (by walk_at "om") (by walk_at "om") (by decide) ?_
      rw [show (1 * 2 ^ (8 * ((8 : Nat) : Int)).toNat : Int) = 18446744073709551616 by decide]
      walk_at "w"
      rw [show u - 18446744073709551616 = v by lia]
      exact h
    · rw [show u = v by lia]
      exact h
end
theorem Has.flat {D : List Int} : ∀ {ws : List Int} {i j : Nat} {v : Int}, Has D i (ws.flatMap fun v => le v 4) → ws[j]? = some v → Has D (i + 4 * j) (le v 4)
  | [], _, _, _, _, h => by simp at h
  | x :: ws, i, 0, v, h, e => by
    simp at e; subst e
    rw [List.flatMap_cons] at h
    exact h.append.1
  | x :: ws, i, j + 1, v, h, e => by
    rw [List.flatMap_cons] at h
    have := h.append.2
    rw [le_length] at this
    have := Has.flat (ws := ws) this (by simpa using e)
    rw [show i + 4 * (j + 1) = i + 4 + 4 * j by lia]
    exact this
theorem sort_get (P : Params) {op s : Int} (h : sortI P op = s) (hs : s ≠ -1) : tabF P (es_OP_SORT P) op = some (.int s) := by
  have := tabI_get (P := P) (iv_OP_SORT P) op
  cases e : tabF P (es_OP_SORT P) op with
  | none => rw [e] at this; exact absurd (h.symm.trans (show (-1 : Int) = tabI (es_OP_SORT P) op from congrArg (fun m : MV => match m with | .int i => i | _ => 0) this).symm) hs
  | some m => rw [e] at this; change m = _ at this; rw [this]; exact congrArg (fun x => some (MV.int x)) h
section
variable {prog : Program} {w : World} {h₀ : Heap} {d : Nat} {σ : List Res} {P : MV → List Res → Prop}
theorem C_read_switch (X : X0 w h₀) {x dx : Addr} {D : List Int} {i : Nat} {ws : List Int} (hD : inB D) (hz : D.length ≤ 100000) (hl : ws.length ≤ 1000) (hA : Has D i (le ws.length 4 ++ ws.flatMap fun v => le v 4))
    (hi : i + 4 + 4 * ws.length ≤ D.length) (hr : ∀ v ∈ ws, -2147483648 ≤ v ∧ v < 2147483648) (h : P (.tup (ws.map fun v => .int ((i + 4 + 4 * ws.length : Nat) + v))) (inp x dx D (i + 4 + 4 * ws.length) :: σ)) :
    CALL prog w h₀ (d + 3) (inp x dx D i :: σ) (.ext (.ref 407)) [.ref x] P := by
  refine CALL_forget ?_
  refine CALL_fnL (fn_read_switch X) X.lim rfl [Str.ofString "inp"] [Str.ofString "count", Str.ofString "end", Str.ofString "out", Str.ofString "place"] _ (gcons (g_len X) (gcons (g_range X) (gcons (g_tuple X) gnil))) rfl (bind_read_switch _) (by kernel_rfl) ?_
  walk_at "start"
  obtain ⟨hA1, hA2⟩ := hA.append
  rw [le_length] at hA2
  walk_at "w"
  (refine EV_meth (u := .ref 365) (by walk_at "kp") ?_; walk_at "w"; refine And.intro (HM_inst (X0.K (by assumption)) (cls_CodeIn _) (ci_number _) (ci_f365 _) (by walk_at "mem") rfl) ?_; walk_at "w")
  refine C_number (wd := 4) X hD hz (by walk_at "om") hA1 (by walk_at "om") ?_
  rw [show ((ws.length : Int) % 256 ^ 4) = ws.length by lia]
  walk_at "w"
  refine EV_at X (by walk_at "mem") List.mem_cons_self ?_
  walk_at "w"
  refine EV_data X (by walk_at "mem") List.mem_cons_self ?_
  walk_at "w"
  · rename_i hc; exfalso; rw [byteArr_size] at hc; lia
  refine EV_at X (by walk_at "mem") List.mem_cons_self ?_
  walk_at "w"
  refine EV_list (EVs_nil ⟨by decide, fun o => ?_⟩)
  walk_at "w"
  refine X1_perm (List.Perm.swap _ _ _) ?_
  refine X1_for (xs := (List.range ws.length).map fun i : Nat => .int i) (fun j ρ τ => ∃ o1, ρ = [(Str.ofString "inp", some (.ref x)), (Str.ofString "count", some (.int ws.length)), (Str.ofString "end", some (.int ((i + 4 : Nat) + 4 * (ws.length : Int)))), (Str.ofString "out", some (.ref o)), (Str.ofString "place", o1)] ∧ τ = inp x dx D (i + 4 + 4 * j) :: .list o ((ws.take j).map fun v => .int ((i + 4 + 4 * ws.length : Nat) + v)) :: σ) ?_ ?_ ?_
  · walk_at "w"
    exact ⟨.rng _ (by walk_at "om") (by walk_at "om"), _, rfl, rfl⟩
  · rintro j m ρ τ hm ⟨o1, rfl, rfl⟩
    obtain ⟨hj, rfl⟩ := rng_get hm
    have hv : ws[j]? = some ws[j] := List.getElem?_eq_getElem hj
    walk_at "w"
    walk_at "app"
    (refine EV_meth (u := .ref 372) (by walk_at "kp") ?_; walk_at "w"; refine And.intro (HM_inst (X0.K (by assumption)) (cls_CodeIn _) (ci_signed _) (ci_f372 _) (by walk_at "mem") rfl) ?_; walk_at "w")
    refine C_signed (wd := 4) (v := ws[j]) X hD hz (by walk_at "om") (hA2.flat hv) (by walk_at "om") (fun e => by lia) (hr _ (List.getElem_mem hj)) ?_
    walk_at "w"
    refine CALL_append (by walk_at "upd") (by rw [List.length_map, List.length_take]; unfold sizeLine; lia) ?_
    walk_at "w"
    refine ⟨_, rfl, ?_⟩
    rw [List.take_add_one, hv, Option.toList_some, List.map_append, show i + 4 + 4 * (j + 1) = i + 4 + 4 * j + 4 by lia, List.map_singleton, Int.natCast_add (i + 4) (4 * ws.length), Int.natCast_mul]
    rfl
  · rintro ρ τ ⟨o1, rfl, rfl⟩
    rw [List.length_map, List.length_range, List.take_length]
    walk_at "w"
    refine CALL_tuple (IsL.at (by walk_at "mem")) ?_
    walk_at "w"
    exact ⟨_, _, List.Perm.swap _ _ _, h⟩
theorem C_read_short (X : X0 w h₀) {x dx : Addr} {D : List Int} {i : Nat} {v op k : Int} (hD : inB D) (hz : D.length ≤ 100000) (hA : Has D i (le v 1)) (hi : i + 1 ≤ D.length) (hv : -128 ≤ v ∧ v < 128)
    (hk : k = 2 ∨ k = 3) (h2 : k = 2 → P (.tup [.int op, .int v]) (inp x dx D (i + 1) :: σ)) (h3 : k = 3 → P (.tup [.int op, .int ((i + 1 : Nat) + v)]) (inp x dx D (i + 1) :: σ)) :
    CALL prog w h₀ (d + 3) (inp x dx D i :: σ) (.ext (.ref 393)) [.ref x, .tup [.int op, .int k, .int 0]] P := by
  refine CALL_fnL (fn_il_read_short X) X.lim rfl [Str.ofString "inp", Str.ofString "row"] [Str.ofString "way"] _ (gcons (g_SF_FIXED X) (gcons (g_SF_U8 X) (gcons (g_SF_I8 X) gnil))) rfl (bind_il_read_short _) (by kernel_rfl) ?_
  walk_at "start"
  walk_at "w"
  (refine EV_meth (u := .ref 372) (by walk_at "kp") ?_; walk_at "w"; refine And.intro (HM_inst (X0.K (by assumption)) (cls_CodeIn _) (ci_signed _) (ci_f372 _) (by walk_at "mem") rfl) ?_; walk_at "w")
  refine C_signed (wd := 1) X hD hz (by walk_at "om") hA hi (fun _ => hv) (by walk_at "om") ?_
  walk_at "w"
  · exact h2 (by assumption)
  · refine EV_at X (by walk_at "mem") List.mem_cons_self ?_
    walk_at "w"
    exact h3 (by walk_at "om")
end
noncomputable def rawMV (x : Ins) (O : Nat → Int) : MV := match x with
  | .sw gs => .tup [.int 69, .tup (gs.map fun g => .int (O g.toNat))]
  | .num op n => .tup [.int op, .int (if isBrN op = true then O n.toNat else n)]
theorem rowB_none {op : Int} {b : Bool} {O : Nat → Int} {e : Int} (h : op = 0 ∨ op = 42) : rowB (.num op 0) b O e = [op] := by
  rcases h with rfl | rfl <;> cases b <;> rfl
theorem rowB_i8 {n : Int} {b : Bool} {O : Nat → Int} {e : Int} : rowB (.num 33 n) b O e = 33 :: le n 8 := by cases b <;> rfl
theorem rowB_i4s {n : Int} {b : Bool} {O : Nat → Int} {e : Int} (h : n ≤ 127) : rowB (.num 32 n) b O e = 31 :: le n 1 := by
  have e1 : formL (.num 32 n) b = ⟨31, 1, n⟩ := by simp [formL, Ins.br, isBrN, form0, h]
  rw [rowB, e1]; rfl
theorem rowB_i4l {n : Int} {b : Bool} {O : Nat → Int} {e : Int} (h : ¬ n ≤ 127) : rowB (.num 32 n) b O e = 32 :: le n 4 := by
  have e1 : formL (.num 32 n) b = ⟨32, 4, n⟩ := by simp [formL, Ins.br, isBrN, form0, h]
  rw [rowB, e1]; rfl
theorem rowB_loc {n : Int} {b : Bool} {O : Nat → Int} {e : Int} : rowB (.num 65036 n) b O e = 254 :: 12 :: le n 2 := by cases b <;> rfl
theorem rowB_brs {op n : Int} {O : Nat → Int} {e : Int} (h : isBrN op = true) : rowB (.num op n) false O e = jumpOctet op :: le (O n.toNat - e) 1 := by
  have e1 : formL (.num op n) false = ⟨jumpOctet op, 1, 0⟩ := by simp [formL, form0, h]
  rw [rowB, e1, if_pos h]
  rcases isBrN_cases h with rfl | rfl | rfl | rfl | rfl | rfl | rfl | rfl | rfl | rfl | rfl | rfl | rfl | rfl <;> rfl
theorem rowB_brl {op n : Int} {O : Nat → Int} {e : Int} (h : isBrN op = true) : rowB (.num op n) true O e = op :: le (O n.toNat - e) 4 := by
  have e1 : formL (.num op n) true = ⟨op, 4, 0⟩ := by simp [formL, Ins.br, Ins.op, h]
  rw [rowB, e1, if_pos h]
  rcases isBrN_cases h with rfl | rfl | rfl | rfl | rfl | rfl | rfl | rfl | rfl | rfl | rfl | rfl | rfl | rfl <;> rfl
theorem rowB_sw {gs : List Int} {b : Bool} {O : Nat → Int} {e : Int} : rowB (.sw gs) b O e = 69 :: (le gs.length 4 ++ gs.flatMap fun g => le (O g.toNat - e) 4) := rfl
theorem sh_31 (P : Params) : tabF P (es_SHORT P) 31 = some (.tup [.int 32, .int 2, .int 0]) := by kernel_rfl
theorem sh_br (P : Params) {op : Int} (h : isBrN op = true) : tabF P (es_SHORT P) (jumpOctet op) = some (.tup [.int op, .int 3, .int 0]) := by
  rcases isBrN_cases h with rfl | rfl | rfl | rfl | rfl | rfl | rfl | rfl | rfl | rfl | rfl | rfl | rfl | rfl <;> kernel_rfl
theorem sh_no (P : Params) {op : Int} (h : isBrN op = true) : tabF P (es_SHORT P) op = none := by
  rcases isBrN_cases h with rfl | rfl | rfl | rfl | rfl | rfl | rfl | rfl | rfl | rfl | rfl | rfl | rfl | rfl <;> kernel_rfl
theorem sh_0 (P : Params) : tabF P (es_SHORT P) 0 = none := by kernel_rfl
theorem sh_42 (P : Params) : tabF P (es_SHORT P) 42 = none := by kernel_rfl
theorem sh_33 (P : Params) : tabF P (es_SHORT P) 33 = none := by kernel_rfl
theorem sh_32 (P : Params) : tabF P (es_SHORT P) 32 = none := by kernel_rfl
theorem sh_69 (P : Params) : tabF P (es_SHORT P) 69 = none := by kernel_rfl
theorem jo_range {op : Int} (h : isBrN op = true) : 0 ≤ jumpOctet op ∧ jumpOctet op < 254 := by
  rcases isBrN_cases h with rfl | rfl | rfl | rfl | rfl | rfl | rfl | rfl | rfl | rfl | rfl | rfl | rfl | rfl <;> decide
section
variable {prog : Program} {w : World} {h₀ : Heap} {d : Nat} {σ : List Res} {P : MV → List Res → Prop}
theorem C_octet (X : X0 w h₀) {x dx : Addr} {D : List Int} {i : Nat} {o : Int} (hD : inB D) (hz : D.length ≤ 100000) (hA : Has D i [o]) (ho : 0 ≤ o ∧ o < 256) (h : P (.int o) (inp x dx D (i + 1) :: σ)) :
    CALL prog w h₀ (d + 1) (inp x dx D i :: σ) (.ext (.ref 365)) [.ref x, .int 1] P := by
  refine C_number (wd := 1) (v := o) X hD hz (by walk_at "om") ?_ (hA.len.resolve_right (by simp)) ?_
  · rw [show le o 1 = [o / 256 ^ 0 % 256] from rfl, show o / 256 ^ 0 % 256 = o by simp; lia]; exact hA
  · rw [show o % 256 ^ 1 = o by simp; lia]; exact h
theorem C_ro_0 (X : X0 w h₀) {x : Addr} {op : Int} {at' t : MV} (hs : sortI w.params op = 0) (h : P (.int 0) σ) : CALL prog w h₀ (d + 4) σ (.ext (.ref 400)) [.ref x, .int op, at', t] P := by
  refine CALL_fnL (fn_il_read_operand X) X.lim rfl [Str.ofString "inp", Str.ofString "op", Str.ofString "at", Str.ofString "tokens"] [Str.ofString "sort", Str.ofString "way", Str.ofString "place"] _ (gcons (g_OP_SORT X) (gcons (g_SO_NONE X) (gcons (g_SO_BRANCH X) (gcons (g_SO_SWITCH X) (gcons (g_read_switch X) (gcons (g_SO_ARG X) (gcons (g_SO_LOCAL X) (gcons (g_MOST_INDEX X) (gcons (g_SO_I4 X) (gcons (g_SO_I8 X) gnil)))))))))) rfl (bind_il_read_operand _) (by kernel_rfl) ?_
  walk_at "start"
  walk_at "w"
  refine SUB_map (.inl rfl) (sort_get _ hs (by decide)) ?_
  walk_at "w"
  exact h
theorem C_ro_br (X : X0 w h₀) {x dx : Addr} {D : List Int} {i : Nat} {v op : Int} {at' t : MV} (hD : inB D) (hz : D.length ≤ 100000) (hA : Has D i (le v 4)) (hi : i + 4 ≤ D.length) (hv : -2147483648 ≤ v ∧ v < 2147483648) (hs : sortI w.params op = 5)
    (h : P (.int ((i + 4 : Nat) + v)) (inp x dx D (i + 4) :: σ)) : CALL prog w h₀ (d + 4) (inp x dx D i :: σ) (.ext (.ref 400)) [.ref x, .int op, at', t] P := by
  refine CALL_fnL (fn_il_read_operand X) X.lim rfl [Str.ofString "inp", Str.ofString "op", Str.ofString "at", Str.ofString "tokens"] [Str.ofString "sort", Str.ofString "way", Str.ofString "place"] _ (gcons (g_OP_SORT X) (gcons (g_SO_NONE X) (gcons (g_SO_BRANCH X) (gcons (g_SO_SWITCH X) (gcons (g_read_switch X) (gcons (g_SO_ARG X) (gcons (g_SO_LOCAL X) (gcons (g_MOST_INDEX X) (gcons (g_SO_I4 X) (gcons (g_SO_I8 X) gnil)))))))))) rfl (bind_il_read_operand _) (by kernel_rfl) ?_
  walk_at "start"
  walk_at "w"
  refine SUB_map (.inl rfl) (sort_get _ hs (by decide)) ?_
  walk_at "w"
  (refine EV_meth (u := .ref 372) (by walk_at "kp") ?_; walk_at "w"; refine And.intro (HM_inst (X0.K (by assumption)) (cls_CodeIn _) (ci_signed _) (ci_f372 _) (by walk_at "mem") rfl) ?_; walk_at "w")
  refine C_signed (wd := 4) X hD hz (by walk_at "om") hA hi (fun e => by lia) hv ?_
  walk_at "w"
  refine EV_at X (by walk_at "mem") List.mem_cons_self ?_
  walk_at "w"
  exact h
theorem C_ro_i4 (X : X0 w h₀) {x dx : Addr} {D : List Int} {i : Nat} {v op : Int} {at' t : MV} (hD : inB D) (hz : D.length ≤ 100000) (hA : Has D i (le v 4)) (hi : i + 4 ≤ D.length) (hv : -2147483648 ≤ v ∧ v < 2147483648) (hs : sortI w.params op = 1)
    (h : P (.int v) (inp x dx D (i + 4) :: σ)) : CALL prog w h₀ (d + 4) (inp x dx D i :: σ) (.ext (.ref 400)) [.ref x, .int op, at', t] P := by
  refine CALL_fnL (fn_il_read_operand X) X.lim rfl [Str.ofString "inp", Str.ofString "op", Str.ofString "at", Str.ofString "tokens"] [Str.ofString "sort", Str.ofString "way", Str.ofString "place"] _ (gcons (g_OP_SORT X) (gcons (g_SO_NONE X) (gcons (g_SO_BRANCH X) (gcons (g_SO_SWITCH X) (gcons (g_read_switch X) (gcons (g_SO_ARG X) (gcons (g_SO_LOCAL X) (gcons (g_MOST_INDEX X) (gcons (g_SO_I4 X) (gcons (g_SO_I8 X) gnil)))))))))) rfl (bind_il_read_operand _) (by kernel_rfl) ?_
  walk_at "start"
  walk_at "w"
  refine SUB_map (.inl rfl) (sort_get _ hs (by decide)) ?_
  walk_at "w"
  (refine EV_meth (u := .ref 372) (by walk_at "kp") ?_; walk_at "w"; refine And.intro (HM_inst (X0.K (by assumption)) (cls_CodeIn _) (ci_signed _) (ci_f372 _) (by walk_at "mem") rfl) ?_; walk_at "w")
  refine C_signed (wd := 4) X hD hz (by walk_at "om") hA hi (fun e => by lia) hv ?_
  walk_at "w"
  exact h
theorem C_ro_i8 (X : X0 w h₀) {x dx : Addr} {D : List Int} {i : Nat} {v op : Int} {at' t : MV} (hD : inB D) (hz : D.length ≤ 100000) (hA : Has D i (le v 8)) (hi : i + 8 ≤ D.length) (hv : -2147483648 ≤ v ∧ v < 2147483648) (hs : sortI w.params op = 2)
    (h : P (.int v) (inp x dx D (i + 8) :: σ)) : CALL prog w h₀ (d + 4) (inp x dx D i :: σ) (.ext (.ref 400)) [.ref x, .int op, at', t] P := by
  refine CALL_fnL (fn_il_read_operand X) X.lim rfl [Str.ofString "inp", Str.ofString "op", Str.ofString "at", Str.ofString "tokens"] [Str.ofString "sort", Str.ofString "way", Str.ofString "place"] _ (gcons (g_OP_SORT X) (gcons (g_SO_NONE X) (gcons (g_SO_BRANCH X) (gcons (g_SO_SWITCH X) (gcons (g_read_switch X) (gcons (g_SO_ARG X) (gcons (g_SO_LOCAL X) (gcons (g_MOST_INDEX X) (gcons (g_SO_I4 X) (gcons (g_SO_I8 X) gnil)))))))))) rfl (bind_il_read_operand _) (by kernel_rfl) ?_
  walk_at "start"
  walk_at "w"
  refine SUB_map (.inl rfl) (sort_get _ hs (by decide)) ?_
  walk_at "w"
  (refine EV_meth (u := .ref 372) (by walk_at "kp") ?_; walk_at "w"; refine And.intro (HM_inst (X0.K (by assumption)) (cls_CodeIn _) (ci_signed _) (ci_f372 _) (by walk_at "mem") rfl) ?_; walk_at "w")
  refine C_signed (wd := 8) X hD hz (by walk_at "om") hA hi (fun e => by lia) hv ?_
  walk_at "w"
  exact h
theorem C_ro_loc (X : X0 w h₀) {x dx : Addr} {D : List Int} {i : Nat} {v op : Int} {at' t : MV} (hD : inB D) (hz : D.length ≤ 100000) (hA : Has D i (le v 2)) (hi : i + 2 ≤ D.length) (hv : 0 ≤ v ∧ v ≤ 65534) (hs : sortI w.params op = 4)
    (h : P (.int v) (inp x dx D (i + 2) :: σ)) : CALL prog w h₀ (d + 4) (inp x dx D i :: σ) (.ext (.ref 400)) [.ref x, .int op, at', t] P := by
  refine CALL_fnL (fn_il_read_operand X) X.lim rfl [Str.ofString "inp", Str.ofString "op", Str.ofString "at", Str.ofString "tokens"] [Str.ofString "sort", Str.ofString "way", Str.ofString "place"] _ (gcons (g_OP_SORT X) (gcons (g_SO_NONE X) (gcons (g_SO_BRANCH X) (gcons (g_SO_SWITCH X) (gcons (g_read_switch X) (gcons (g_SO_ARG X) (gcons (g_SO_LOCAL X) (gcons (g_MOST_INDEX X) (gcons (g_SO_I4 X) (gcons (g_SO_I8 X) gnil)))))))))) rfl (bind_il_read_operand _) (by kernel_rfl) ?_
  walk_at "start"
  walk_at "w"
  refine SUB_map (.inl rfl) (sort_get _ hs (by decide)) ?_
  walk_at "w"
  (refine EV_meth (u := .ref 365) (by walk_at "kp") ?_; walk_at "w"; refine And.intro (HM_inst (X0.K (by assumption)) (cls_CodeIn _) (ci_number _) (ci_f365 _) (by walk_at "mem") rfl) ?_; walk_at "w")
  refine C_number (wd := 2) X hD hz (by walk_at "om") hA hi ?_
  rw [show v % 256 ^ 2 = v by lia]
  walk_at "w"
  exact h
theorem C_ro_sw (X : X0 w h₀) {x dx : Addr} {D : List Int} {i : Nat} {ws : List Int} {op : Int} {at' t : MV} (hD : inB D) (hz : D.length ≤ 100000) (hl : ws.length ≤ 1000) (hA : Has D i (le ws.length 4 ++ ws.flatMap fun v => le v 4))
    (hi : i + 4 + 4 * ws.length ≤ D.length) (hr : ∀ v ∈ ws, -2147483648 ≤ v ∧ v < 2147483648) (hs : sortI w.params op = 6) (h : P (.tup (ws.map fun v => .int ((i + 4 + 4 * ws.length : Nat) + v))) (inp x dx D (i + 4 + 4 * ws.length) :: σ)) :
    CALL prog w h₀ (d + 4) (inp x dx D i :: σ) (.ext (.ref 400)) [.ref x, .int op, at', t] P := by
  refine CALL_fnL (fn_il_read_operand X) X.lim rfl [Str.ofString "inp", Str.ofString "op", Str.ofString "at", Str.ofString "tokens"] [Str.ofString "sort", Str.ofString "way", Str.ofString "place"] _ (gcons (g_OP_SORT X) (gcons (g_SO_NONE X) (gcons (g_SO_BRANCH X) (gcons (g_SO_SWITCH X) (gcons (g_read_switch X) (gcons (g_SO_ARG X) (gcons (g_SO_LOCAL X) (gcons (g_MOST_INDEX X) (gcons (g_SO_I4 X) (gcons (g_SO_I8 X) gnil)))))))))) rfl (bind_il_read_operand _) (by kernel_rfl) ?_
  walk_at "start"
  walk_at "w"
  refine SUB_map (.inl rfl) (sort_get _ hs (by decide)) ?_
  walk_at "w"
  refine C_read_switch X hD hz hl hA hi hr ?_
  walk_at "w"
  exact h
end
section
variable {prog : Program} {w : World} {h₀ : Heap} {d : Nat} {σ : List Res} {P : MV → List Res → Prop}
theorem C_ri_op (X : X0 w h₀) {x dx : Addr} {D : List Int} {i : Nat} {op s : Int} {t : MV} (hD : inB D) (hz : D.length ≤ 100000) (hA : Has D i [op]) (ho : 0 ≤ op ∧ op < 254) (hn : tabF w.params (es_SHORT w.params) op = none) (hs : sortI w.params op = s) (hs0 : s ≠ -1)
    (h : CALL prog w h₀ (d + 4) (inp x dx D (i + 1) :: σ) (.ext (.ref 400)) [.ref x, .int op, .int i, t] (fun v σ' => P (.tup [.int op, v]) σ')) : CALL prog w h₀ (d + 5) (inp x dx D i :: σ) (.ext (.ref 386)) [.ref x, t] P := by
  refine CALL_fnL (fn_il_read_ins X) X.lim rfl [Str.ofString "inp", Str.ofString "tokens"] [Str.ofString "at", Str.ofString "octet", Str.ofString "op"] _ (gcons (g_TWO_OCTETS X) (gcons (g_OP_SORT X) (gcons (g_il_read_operand X) (gcons (g_SHORT X) (gcons (g_il_read_short X) gnil))))) rfl (bind_il_read_ins _) (by kernel_rfl) ?_
  walk_at "start"
  walk_at "w"
  refine EV_at X (by walk_at "mem") List.mem_cons_self ?_
  walk_at "w"
  (refine EV_meth (u := .ref 365) (by walk_at "kp") ?_; walk_at "w"; refine And.intro (HM_inst (X0.K (by assumption)) (cls_CodeIn _) (ci_number _) (ci_f365 _) (by walk_at "mem") rfl) ?_; walk_at "w")
  refine C_octet X hD hz hA (by walk_at "om") ?_
  walk_at "w"
  refine CMP_in (.inl rfl) ?_
  rw [hn]
  walk_at "w"
  refine CMP_notin (.inl rfl) ?_
  rw [sort_get _ hs hs0]
  refine zk _ _ ⟨fun e => (nomatch e), fun _ => ?_⟩
  walk_at "w"
  refine JJ.post h fun v σ' hp => ?_
  walk_at "w"
  exact hp
theorem C_ri_short (X : X0 w h₀) {x dx : Addr} {D : List Int} {i : Nat} {o op k : Int} {t : MV} (hD : inB D) (hz : D.length ≤ 100000) (hA : Has D i [o]) (ho : 0 ≤ o ∧ o < 254) (hs : tabF w.params (es_SHORT w.params) o = some (.tup [.int op, .int k, .int 0]))
    (h : CALL prog w h₀ (d + 4) (inp x dx D (i + 1) :: σ) (.ext (.ref 393)) [.ref x, .tup [.int op, .int k, .int 0]] P) : CALL prog w h₀ (d + 5) (inp x dx D i :: σ) (.ext (.ref 386)) [.ref x, t] P := by
  refine CALL_fnL (fn_il_read_ins X) X.lim rfl [Str.ofString "inp", Str.ofString "tokens"] [Str.ofString "at", Str.ofString "octet", Str.ofString "op"] _ (gcons (g_TWO_OCTETS X) (gcons (g_OP_SORT X) (gcons (g_il_read_operand X) (gcons (g_SHORT X) (gcons (g_il_read_short X) gnil))))) rfl (bind_il_read_ins _) (by kernel_rfl) ?_
  walk_at "start"
  walk_at "w"
  refine EV_at X (by walk_at "mem") List.mem_cons_self ?_
  walk_at "w"
  (refine EV_meth (u := .ref 365) (by walk_at "kp") ?_; walk_at "w"; refine And.intro (HM_inst (X0.K (by assumption)) (cls_CodeIn _) (ci_number _) (ci_f365 _) (by walk_at "mem") rfl) ?_; walk_at "w")
  refine C_octet X hD hz hA (by walk_at "om") ?_
  walk_at "w"
  refine CMP_in (.inl rfl) ?_
  rw [hs]
  walk_at "w"
  refine SUB_map (.inl rfl) hs ?_
  walk_at "w"
  refine JJ.post h fun v σ' hp => ?_
  walk_at "w"
  exact hp
theorem C_ri_two (X : X0 w h₀) {x dx : Addr} {D : List Int} {i : Nat} {t : MV} (hD : inB D) (hz : D.length ≤ 100000) (hA : Has D i [254, 12])
    (h : CALL prog w h₀ (d + 4) (inp x dx D (i + 1 + 1) :: σ) (.ext (.ref 400)) [.ref x, .int 65036, .int i, t] (fun v σ' => P (.tup [.int 65036, v]) σ')) : CALL prog w h₀ (d + 5) (inp x dx D i :: σ) (.ext (.ref 386)) [.ref x, t] P := by
  refine CALL_fnL (fn_il_read_ins X) X.lim rfl [Str.ofString "inp", Str.ofString "tokens"] [Str.ofString "at", Str.ofString "octet", Str.ofString "op"] _ (gcons (g_TWO_OCTETS X) (gcons (g_OP_SORT X) (gcons (g_il_read_operand X) (gcons (g_SHORT X) (gcons (g_il_read_short X) gnil))))) rfl (bind_il_read_ins _) (by kernel_rfl) ?_
  walk_at "start"
  walk_at "w"
  refine EV_at X (by walk_at "mem") List.mem_cons_self ?_
  walk_at "w"
  (refine EV_meth (u := .ref 365) (by walk_at "kp") ?_; walk_at "w"; refine And.intro (HM_inst (X0.K (by assumption)) (cls_CodeIn _) (ci_number _) (ci_f365 _) (by walk_at "mem") rfl) ?_; walk_at "w")
  refine C_octet X hD hz hA.cons.1 (by walk_at "om") ?_
  walk_at "w"
  (refine EV_meth (u := .ref 365) (by walk_at "kp") ?_; walk_at "w"; refine And.intro (HM_inst (X0.K (by assumption)) (cls_CodeIn _) (ci_number _) (ci_f365 _) (by walk_at "mem") rfl) ?_; walk_at "w")
  refine C_octet X hD hz hA.cons.2 (by walk_at "om") ?_
  walk_at "w"
  rw [show (65024 + 12 : Int) = 65036 from rfl]
  refine CMP_notin (.inl rfl) ?_
  rw [sort_get _ (sort_12 _) (by decide)]
  refine zk _ _ ⟨fun e => (nomatch e), fun _ => ?_⟩
  walk_at "w"
  refine JJ.post h fun v σ' hp => ?_
  walk_at "w"
  exact hp
/-- the octets of one row are read -/
theorem C_read_ins (X : X0 w h₀) {x dx : Addr} {D : List Int} {i : Nat} {r : Ins} {b : Bool} {O : Nat → Int} {c : Int} {t : MV} (hD : inB D) (hz : D.length ≤ 100000) (ok : r.Ok c)
    (hA : Has D i (rowB r b O ((i + (rowB r b O 0).length : Nat) : Int))) (hi : i + (rowB r b O 0).length ≤ D.length) (hO : ∀ j, 0 ≤ O j ∧ O j ≤ 100000)
    (hsh : ∀ op n, r = .num op n → isBrN op = true → b = false → -128 ≤ O n.toNat - ((i + (rowB r b O 0).length : Nat) : Int) ∧ O n.toNat - ((i + (rowB r b O 0).length : Nat) : Int) < 128)
    (h : P (rawMV r O) (inp x dx D (i + (rowB r b O 0).length) :: σ)) : CALL prog w h₀ (d + 5) (inp x dx D i :: σ) (.ext (.ref 386)) [.ref x, t] P := by
  cases ok with
  | none op e =>
    rw [rowB_none e] at hA h
    have hs : sortI w.params op = 0 := by rcases e with rfl | rfl; exact sort_0 _; exact sort_42 _
    refine C_ri_op X hD hz hA (by walk_at "om") (by rcases e with rfl | rfl; exact sh_0 _; exact sh_42 _) hs (by decide) ?_
    refine C_ro_0 X hs ?_
    rw [rawMV, if_neg (by rcases e with rfl | rfl <;> decide)] at h
    exact h
  | i8 n h0 h1 =>
    rw [rowB_i8] at hA h hi
    rw [List.length_cons, le_length] at h hi
    refine C_ri_op X hD hz hA.cons.1 (by walk_at "om") (sh_33 _) (sort_33 _) (by decide) ?_
    refine C_ro_i8 X hD hz hA.cons.2 (by walk_at "om") ⟨h0, h1⟩ (sort_33 _) ?_
    exact h
  | i4 n h0 h1 =>
    by_cases hn : n ≤ 127
    · rw [rowB_i4s hn] at hA h hi
      rw [List.length_cons, le_length] at h hi
      refine C_ri_short X hD hz hA.cons.1 (by walk_at "om") (sh_31 _) ?_
      refine C_read_short (d := d + 1) X hD hz hA.cons.2 (by walk_at "om") (by walk_at "om") (.inl rfl) (fun _ => ?_) (fun e => by lia)
      exact h
    · rw [rowB_i4l hn] at hA h hi
      rw [List.length_cons, le_length] at h hi
      refine C_ri_op X hD hz hA.cons.1 (by walk_at "om") (sh_32 _) (sort_32 _) (by decide) ?_
      refine C_ro_i4 X hD hz hA.cons.2 (by walk_at "om") ⟨by lia, h1⟩ (sort_32 _) ?_
      exact h
  | loc n h0 h1 =>
    rw [rowB_loc] at hA h hi
    rw [List.length_cons, List.length_cons, le_length] at h hi
    refine C_ri_two X hD hz (Has.append (a := [254, 12]) hA).1 ?_
    refine C_ro_loc X hD hz hA.cons.2.cons.2 (by walk_at "om") ⟨by lia, h1⟩ (sort_12 _) ?_
    exact h
  | br op n hb h0 h1 =>
    have hO := hO n.toNat
    have hj := jo_range hb
    rw [rawMV, if_pos hb] at h
    cases b with
    | false =>
      have hsh := hsh op n rfl hb rfl
      rw [rowB_brs hb] at hA h hi hsh
      rw [rowB_brs hb] at hA
      rw [List.length_cons, le_length] at h hi hsh hA
      refine C_ri_short X hD hz hA.cons.1 hj (sh_br _ hb) ?_
      refine C_read_short (d := d + 1) X hD hz hA.cons.2 (by walk_at "om") hsh (.inr rfl) (fun e => by lia) (fun _ => ?_)
      rw [show ((i + 1 + 1 : Nat) : Int) + (O n.toNat - ((i + (1 + 1) : Nat) : Int)) = O n.toNat by lia]
      exact h
    | true =>
      rw [rowB_brl hb] at hA h hi
      rw [rowB_brl hb] at hA
      rw [List.length_cons, le_length] at h hi hA
      have hop : 0 ≤ op ∧ op < 254 := by have := isBrN_range hb; lia
      refine C_ri_op X hD hz hA.cons.1 hop (sh_no _ hb) (sort_br _ hb) (by decide) ?_
      refine C_ro_br X hD hz hA.cons.2 (by walk_at "om") (by walk_at "om") (sort_br _ hb) ?_
      rw [show ((i + 1 + 4 : Nat) : Int) + (O n.toNat - ((i + (4 + 1) : Nat) : Int)) = O n.toNat by lia]
      exact h
  | sw gs hl hg =>
    have el : (rowB (.sw gs) b O 0).length = 5 + 4 * gs.length := by rw [rowB_sw, List.length_cons, List.length_append, le_length, flat_len]; lia
    rw [el] at h hi
    rw [el, rowB_sw] at hA
    refine C_ri_op X hD hz hA.cons.1 (by walk_at "om") (sh_69 _) (sort_69 _) (by decide) ?_
    refine C_ro_sw (ws := gs.map fun g => O g.toNat - ((i + (5 + 4 * gs.length) : Nat) : Int)) X hD hz (by rw [List.length_map]; exact hl) ?_ (by rw [List.length_map]; lia) ?_ (sort_69 _) ?_
    · have := hA.cons.2
      rw [List.length_map]
      rw [List.flatMap_map]
      exact this
    · intro v hv
      obtain ⟨g, _, rfl⟩ := List.mem_map.mp hv
      have := hO g.toNat
      lia
    · rw [List.length_map, List.map_map]
      rw [show (i + 1 + 4 + 4 * gs.length) = i + (5 + 4 * gs.length) by lia]
      have e : (gs.map ((fun v => MV.int (((i + (5 + 4 * gs.length) : Nat) : Int) + v)) ∘ fun g => O g.toNat - ((i + (5 + 4 * gs.length) : Nat) : Int))) = gs.map fun g => MV.int (O g.toNat) := by
        apply List.map_congr_left
        intro g _
        show MV.int _ = _
        congr 1
        show (((i + (5 + 4 * gs.length) : Nat) : Int) + (O g.toNat - ((i + (5 + 4 * gs.length) : Nat) : Int))) = O g.toNat
        lia
      rw [e]
      exact h
end
theorem kp_CodeIn (P : Params) : keepIn (KL P) (.ref 375) = true := by kernel_rfl
theorem kp_Tokens (P : Params) : keepIn (KL P) (.ref 228) = true := by kernel_rfl
theorem sm_live (P : Params) : ((KL P).lookup sysModules).isSome = true := by kernel_rfl
section
variable {prog : Program} {w : World} {h₀ : Heap} {d : Nat} {σ : List Res} {P : MV → List Res → Prop}
theorem X0.sm (X : X0 w h₀) : ∃ o, h₀.get? sysModules = some o := by
  obtain ⟨o, e⟩ := Option.isSome_iff_exists.mp (sm_live w.params)
  exact ⟨o, X.at e⟩
theorem Kp_cls (X : X0 w h₀) {u : Value} (e : keepIn (KL w.params) u = true) : Kp h₀ u := fun M h k => keeps_K e h (X.K.keeps k)
noncomputable def placeG (os : List Int) : Nat → Int → Option MV
  | 0 => fun _ => none
  | k + 1 => fun x => if x = os.getD k 0 then some (.int k) else placeG os k x
theorem placeG_get {os : List Int} {n : Nat} (inj : ∀ j k : Nat, j < n → k < n → os.getD j 0 = os.getD k 0 → j = k) {j : Nat} (hj : j < n) : placeG os n (os.getD j 0) = some (.int j) := by
  induction n with
  | zero => lia
  | succ n ih =>
    show (if os.getD j 0 = os.getD n 0 then some (MV.int n) else placeG os n (os.getD j 0)) = _
    by_cases e : j = n
    · subst e; rw [if_pos rfl]
    · rw [if_neg (fun q => e (inj j n hj (by walk_at "om") q))]
      exact ih (fun j k hj hk q => inj j k (by walk_at "om") (by walk_at "om") q) (by walk_at "om")
theorem C_places_of (X : X0 w h₀) {vo : MV} {os : List Int} {n : Nat} (I : IsL σ vo (os.map .int)) (hl : os.length = n + 1) (hz : n ≤ 10000) (h : ∀ D, P (.ref D) (.imap D (placeG os n) n :: σ)) :
    CALL prog w h₀ (d + 1) σ (.ext (.ref 414)) [vo] P := by
  refine CALL_fnL (fn_places_of X) X.lim rfl [Str.ofString "offsets"] [Str.ofString "out", Str.ofString "i"] _ (gcons (g_range X) (gcons (g_len X) gnil)) rfl (bind_places_of _) (by kernel_rfl) ?_
  walk_at "start"
  walk_at "w"
  refine EV_dict0 X.sm fun D => ?_
  walk_at "w"
  refine X1_for (xs := (List.range n).map fun i : Nat => .int i) (fun j ρ τ => ∃ o1, ρ = [(Str.ofString "offsets", some vo), (Str.ofString "out", some (.ref D)), (Str.ofString "i", o1)] ∧ τ = .imap D (placeG os j) j :: σ) ?_ ?_ ?_
  · walk_at "w"
    refine CALL_lenl I.cons ?_
    walk_at "w"
    rw [List.length_map, hl, show (((n + 1 : Nat) : Int) - 1) = n by lia]
    walk_at "w"
    exact ⟨.rng _ (by walk_at "om") (by walk_at "om"), _, rfl, rfl⟩
  · rintro j m ρ τ hm ⟨o1, rfl, rfl⟩
    obtain ⟨hj, rfl⟩ := rng_get hm
    walk_at "w"
    refine AS_sub ?_
    walk_at "w"
    have e : os[j]? = some (os.getD j 0) := by rw [List.getD_eq_getElem?_getD, List.getElem?_eq_getElem (by walk_at "om")]; rfl
    refine SUB_list I.cons (by walk_at "om") (get_map (k := j) e) ?_
    refine SETI_map .head (by unfold sizeLine; lia) ?_
    walk_at "w"
    exact ⟨_, rfl, rfl⟩
  · rintro ρ τ ⟨o1, rfl, rfl⟩
    rw [List.length_map, List.length_range]
    walk_at "w"
    exact h D
theorem C_goal_at (X : X0 w h₀) {g : Int → Option MV} {o j : Int} {i : MV} (hg : g o = some (.int j)) (h : P (.int j) σ) : CALL prog w h₀ (d + 1) σ (.ext (.ref 421)) [.imap g, .int o, i] P := by
  refine CALL_fnL (fn_goal_at X) X.lim rfl [Str.ofString "places", Str.ofString "offset", Str.ofString "i"] [] _ gnil rfl (bind_goal_at _) (by kernel_rfl) ?_
  walk_at "start"
  walk_at "w"
  refine CMP_notin (.inl rfl) ?_
  rw [hg]
  refine zk _ _ ⟨fun e => (nomatch e), fun _ => ?_⟩
  walk_at "w"
  refine SUB_map (.inl rfl) hg ?_
  walk_at "w"
  exact h
theorem C_place_targets (X : X0 w h₀) {g : Int → Option MV} {r : Ins} {O : Nat → Int} {c : Int} {i : MV} (ok : r.Ok c) (hg : ∀ j : Nat, (j : Int) < c → g (O j) = some (.int j)) (h : P r.mv σ) :
    CALL prog w h₀ (d + 2) σ (.ext (.ref 428)) [rawMV r O, .imap g, i] P := by
  have brs := ok.brs (P := w.params)
  cases r with
  | sw gs =>
    refine CALL_forget ?_
    refine CALL_fnL (fn_place_targets X) X.lim rfl [Str.ofString "ins", Str.ofString "places", Str.ofString "i"] [Str.ofString "out", Str.ofString "offset"] _ (gcons (g_OP_SWITCH X) (gcons (g_goal_at X) (gcons (g_tuple X) (gcons (g_is_branch X) gnil)))) rfl (bind_place_targets _) (by kernel_rfl) ?_
    walk_at "start"
    cases ok with | sw _ hgl hgr => ?_
    rw [rawMV]
    walk_at "w"
    refine EV_list (EVs_nil ⟨by decide, fun o => ?_⟩)
    walk_at "w"
    refine X1_for (xs := gs.map fun g => .int (O g.toNat)) (fun j ρ τ => ∃ o1, ρ = [(Str.ofString "ins", some (.tup [.int 69, .tup (gs.map fun g => .int (O g.toNat))])), (Str.ofString "places", some (.imap g)), (Str.ofString "i", some i), (Str.ofString "out", some (.ref o)), (Str.ofString "offset", o1)] ∧ τ = .list o ((gs.take j).map .int) :: σ) ?_ ?_ ?_
    · walk_at "w"
      exact ⟨.tup _, _, rfl, rfl⟩
    · rintro j m ρ τ hm ⟨o1, rfl, rfl⟩
      obtain ⟨t, ht, rfl⟩ := map_get hm
      have hr := hgr t (List.mem_of_getElem? ht)
      walk_at "w"
      walk_at "app"
      refine C_goal_at X (j := t) (by rw [hg _ (by walk_at "om"), Int.toNat_of_nonneg hr.1]) ?_
      walk_at "w"
      refine CALL_append (by walk_at "upd") (by rw [List.length_map, List.length_take]; unfold sizeLine; lia) ?_
      walk_at "w"
      refine ⟨_, rfl, ?_⟩
      rw [List.take_add_one, ht, Option.toList_some, List.map_append, List.map_singleton]
    · rintro ρ τ ⟨o1, rfl, rfl⟩
      rw [List.length_map, List.take_length]
      walk_at "w"
      refine CALL_tuple (IsL.at (by walk_at "mem")) ?_
      walk_at "w"
      exact ⟨_, _, .refl _, h⟩
  | num op n =>
    change (sortI w.params op == 5) = isBrN op at brs
    have hop := ok.ok
    change op ≠ 69 at hop
    refine CALL_fnL (fn_place_targets X) X.lim rfl [Str.ofString "ins", Str.ofString "places", Str.ofString "i"] [Str.ofString "out", Str.ofString "offset"] _ (gcons (g_OP_SWITCH X) (gcons (g_goal_at X) (gcons (g_tuple X) (gcons (g_is_branch X) gnil)))) rfl (bind_place_targets _) (by kernel_rfl) ?_
    walk_at "start"
    rw [rawMV]
    walk_at "w"
    refine C_is_branch X ?_
    rw [brs]
    walk_at "w"
    · rename_i hb
      rw [if_pos hb]
      cases ok with
      | none op e => rcases e with rfl | rfl <;> simp [isBrN] at hb
      | i8 => simp [isBrN] at hb
      | i4 => simp [isBrN] at hb
      | loc => simp [isBrN] at hb
      | br op n _ hn0 hn1 =>
      refine C_goal_at X (j := n) (by rw [hg _ (by walk_at "om"), Int.toNat_of_nonneg hn0]) ?_
      walk_at "w"
      exact h
    · rename_i hb
      rw [if_neg (by rw [hb]; decide)]
      walk_at "w"
      exact h
end
theorem opSize1 {o : Int} (h : o < 65024) : opSize o = 1 := by unfold opSize; rw [if_neg (by lia)]
theorem sizeL_len {x : Ins} {c : Int} {b : Bool} (ok : x.Ok c) (O : Nat → Int) (e : Int) : sizeL x b = ((rowB x b O e).length : Int) := by
  cases ok with
  | none op h =>
    rw [rowB_none h]
    rcases h with rfl | rfl <;> cases b <;> rfl
  | i8 n => rw [rowB_i8, List.length_cons, le_length]; cases b <;> rfl
  | i4 n h0 h1 =>
    by_cases h : n ≤ 127
    · have e1 : formL (.num 32 n) b = ⟨31, 1, n⟩ := by simp [formL, Ins.br, isBrN, form0, h]
      rw [rowB_i4s h, List.length_cons, le_length, sizeL, e1]; rfl
    · have e1 : formL (.num 32 n) b = ⟨32, 4, n⟩ := by simp [formL, Ins.br, isBrN, form0, h]
      rw [rowB_i4l h, List.length_cons, le_length, sizeL, e1]; rfl
  | loc n => rw [rowB_loc, List.length_cons, List.length_cons, le_length]; cases b <;> rfl
  | br op n h =>
    cases b with
    | false =>
      have e1 : formL (.num op n) false = ⟨jumpOctet op, 1, 0⟩ := by simp [formL, form0, h]
      have := jo_range h
      rw [rowB_brs h, List.length_cons, le_length, sizeL, e1, formSize, if_neg (show ¬ (1 : Int) < 0 by decide), opSize1 (show jumpOctet op < 65024 by lia)]; rfl
    | true =>
      have e1 : formL (.num op n) true = ⟨op, 4, 0⟩ := by simp [formL, Ins.br, Ins.op, h]
      have := isBrN_range h
      rw [rowB_brl h, List.length_cons, le_length, sizeL, e1, formSize, if_neg (show ¬ (4 : Int) < 0 by decide), opSize1 (show op < 65024 by lia)]; rfl
  | sw gs =>
    rw [rowB_sw, List.length_cons, List.length_append, le_length, flat_len]
    have e1 : formL (.sw gs) b = ⟨69, -1, 0⟩ := by cases b <;> rfl
    rw [sizeL, e1, formSize, if_pos (by decide), opSize1 (by decide), Ins.len]
    lia
theorem rowB_len {x : Ins} {c : Int} {b : Bool} (ok : x.Ok c) (O O' : Nat → Int) (e e' : Int) : (rowB x b O e).length = (rowB x b O' e').length := by
  have h1 := sizeL_len (b := b) ok O e
  have h2 := sizeL_len (b := b) ok O' e'
  lia
theorem sizeL_pos {x : Ins} {c : Int} {b : Bool} (ok : x.Ok c) : 1 ≤ sizeL x b := by
  rw [sizeL_len ok (fun _ => 0) 0]
  cases x with
  | sw gs => rw [rowB_sw, List.length_cons]; lia
  | num op n => rw [rowB, List.length_append]; unfold headB; simp; lia
theorem le_in (n : Int) (w : Nat) : ∀ y ∈ le n w, 0 ≤ y ∧ y < 256 := by
  intro y hy
  obtain ⟨j, _, rfl⟩ := List.mem_map.mp hy
  lia
theorem headB_in (o : Int) : ∀ y ∈ headB o, 0 ≤ y ∧ y < 256 := by
  intro y hy
  unfold headB at hy
  split at hy <;> simp at hy
  · rcases hy with rfl | rfl <;> lia
  · subst hy; lia
theorem rowB_in (x : Ins) (b : Bool) (O : Nat → Int) (e : Int) : ∀ y ∈ rowB x b O e, 0 ≤ y ∧ y < 256 := by
  intro y hy
  cases x with
  | sw gs =>
    rw [rowB] at hy
    rcases List.mem_append.mp hy with hy | hy
    · exact headB_in _ y hy
    rcases List.mem_append.mp hy with hy | hy
    · exact le_in _ _ y hy
    · obtain ⟨g, _, hy⟩ := List.mem_flatMap.mp hy
      exact le_in _ _ y hy
  | num op n =>
    rw [rowB] at hy
    rcases List.mem_append.mp hy with hy | hy
    · exact headB_in _ y hy
    · split at hy <;> exact le_in _ _ y hy
theorem encTo_in (cs : List Ins) (L : List Bool) (n : Nat) : inB (encTo cs L n) := by
  intro y hy
  obtain ⟨i, _, hy⟩ := List.mem_flatMap.mp hy
  unfold rowAt at hy
  split at hy
  · exact rowB_in _ _ _ _ y hy
  · cases hy
theorem encTo_pre (cs : List Ins) (L : List Bool) {i n : Nat} (h : i ≤ n) : ∃ t, encTo cs L n = encTo cs L i ++ t := by
  induction n with
  | zero => have : i = 0 := by lia
            subst this; exact ⟨[], by simp⟩
  | succ n ih =>
    rcases Nat.lt_or_ge i (n + 1) with q | q
    · obtain ⟨t, e⟩ := ih (by lia)
      exact ⟨t ++ rowAt cs L n, by rw [encTo_succ, e, List.append_assoc]⟩
    · have : i = n + 1 := by lia
      subst this; exact ⟨[], by simp⟩
theorem has_row (cs : List Ins) (L : List Bool) {i n : Nat} (h : i < n) : Has (encTo cs L n) (encTo cs L i).length (rowAt cs L i) := by
  obtain ⟨t, e⟩ := encTo_pre cs L (show i + 1 ≤ n by lia)
  exact ⟨t, by rw [e, encTo_succ, List.append_assoc, List.drop_left]⟩
theorem offsL_get0 (a : Int) (l : List Int) : (offsL a l).getD 0 0 = a := by cases l <;> rfl
theorem offsL_getS : ∀ (l : List Int) (a : Int) {i : Nat} {s : Int}, l[i]? = some s → (offsL a l).getD (i + 1) 0 = (offsL a l).getD i 0 + s
  | [], _, _, _, h => by simp at h
  | x :: l, a, 0, s, h => by
    simp at h; subst h
    show (offsL (a + x) l).getD 0 0 = a + x
    exact offsL_get0 _ _
  | x :: l, a, i + 1, s, h => by
    show (offsL (a + x) l).getD (i + 1) 0 = (offsL (a + x) l).getD i 0 + s
    exact offsL_getS l (a + x) (by simpa using h)
theorem offAt_zero (cs : List Ins) (L : List Bool) : offAt cs L 0 = 0 := offsL_get0 _ _
theorem offAt_succ {cs : List Ins} {L : List Bool} {i : Nat} {x : Ins} {b : Bool} (h : cs[i]? = some x) (hb : L[i]? = some b) : offAt cs L (i + 1) = offAt cs L i + sizeL x b := by
  unfold offAt offs
  exact offsL_getS _ _ (by rw [sizesL, List.getElem?_zipWith, h, hb])
theorem offAt_eq {cs : List Ins} {L : List Bool} (ok : ∀ x ∈ cs, x.Ok cs.length) (hL : L.length = cs.length) : ∀ {i : Nat}, i ≤ cs.length → offAt cs L i = (encTo cs L i).length
  | 0, _ => by rw [offAt_zero]; rfl
  | i + 1, h => by
    obtain ⟨x, hx, okx⟩ := ok_at ok (i := i) (by lia)
    obtain ⟨b, hb⟩ := bool_at (L := L) (i := i) (by lia)
    rw [offAt_succ hx hb, offAt_eq ok hL (i := i) (by lia), encTo_succ, List.length_append, rowAt, hx, hb]
    rw [sizeL_len okx (offAt cs L) (offAt cs L (i + 1))]
    show _ = (((encTo cs L i).length + (rowB x b (offAt cs L) (offAt cs L (i + 1))).length : Nat) : Int)
    lia
theorem encTo_lt {cs : List Ins} {L : List Bool} (ok : ∀ x ∈ cs, x.Ok cs.length) (hL : L.length = cs.length) {i j : Nat} (h : i < j) (hj : j ≤ cs.length) : (encTo cs L i).length < (encTo cs L j).length := by
  have h1 := encTo_mono cs L (show i + 1 ≤ j by lia)
  obtain ⟨x, hx, okx⟩ := ok_at ok (i := i) (by lia)
  obtain ⟨b, hb⟩ := bool_at (L := L) (i := i) (by lia)
  have h2 := offAt_succ hx hb
  rw [offAt_eq ok hL (by lia), offAt_eq ok hL (by lia)] at h2
  have := sizeL_pos (b := b) okx
  lia
section
variable {prog : Program} {w : World} {h₀ : Heap} {d : Nat} {σ : List Res} {P : MV → List Res → Prop}
theorem C_CodeIn (X : X0 w h₀) {D : List Int} (h : ∀ x dx, P (.ref x) (inp x dx D 0 :: σ)) : CALL prog w h₀ (d + 2) σ (.ext (.ref 375)) [.bytes (byteArr D)] P := by
  refine CALL_cls X.K (cls_CodeIn _) (ci_init _) (ci_f358 _) (fn_CodeIn___init__ X) X.lim rfl [Str.ofString "self", Str.ofString "data"] [] _ gnil rfl (bind_CodeIn___init__ _) (by kernel_rfl) ?_
  intro x dx
  (intro L; (conv in (fnBody _) => whnf); (conv in (loc0 _ _ _) => simp only [loc0, List.map_cons, List.map_nil, List.zip_cons_cons, List.zip_nil_left, List.nil_append, List.cons_append]))
  walk_at "w"
  refine AS_attr ?_
  walk_at "w"
  refine SETA_inst X.K (cls_CodeIn _) (ci_tdata _) .head (show 0 < 1000 by decide) ?_
  walk_at "w"
  refine AS_attr ?_
  walk_at "w"
  refine SETA_inst X.K (cls_CodeIn _) (ci_tat _) .head (show 1 < 1000 by decide) ?_
  walk_at "w"
  exact ⟨rfl, h x dx⟩
end
theorem take_succ_map {α : Type} {l : List α} {f : α → MV} {i : Nat} {x : α} (h : l[i]? = some x) : (l.take i).map f ++ [f x] = (l.take (i + 1)).map f := by
  rw [List.take_add_one, h, Option.toList_some, List.map_append, List.map_singleton]
section
variable {prog : Program} {w : World} {h₀ : Heap} {d : Nat} {σ : List Res} {P : MV → List Res → Prop}
noncomputable abbrev deL (D : List Int) (t : MV) (x a b : Addr) (o1 o2 o3 : Option MV) : Loc := [(Str.ofString "octets", some (.bytes (byteArr D))), (Str.ofString "tokens", some t), (Str.ofString "inp", some (.ref x)), (Str.ofString "rows", some (.ref a)), (Str.ofString "offsets", some (.ref b)), (Str.ofString "places", o1), (Str.ofString "code", o2), (Str.ofString "i", o3)]
theorem C_decode (X : X0 w h₀) {cs : List Ins} {L : List Bool} {t : MV} (hz : cs.length ≤ 10000) (ok : ∀ x ∈ cs, x.Ok cs.length) (hL : L.length = cs.length) (hB : (encTo cs L cs.length).length ≤ 50000)
    (hfar : ∀ (i : Nat) op n, cs[i]? = some (.num op n) → isBrN op = true → L[i]? = some false → far cs L i n = false)
    (h : P (.tup [.list (cs.map Ins.mv), .list ((offs cs L).map .int)]) σ) :
    CALL prog w h₀ (d + 6) σ (.ext (.ref 435)) [.bytes (byteArr (encTo cs L cs.length)), t] P := by
  refine CALL_forget ?_
  refine CALL_fnL (fn_decode X) X.lim rfl [Str.ofString "octets", Str.ofString "tokens"] [Str.ofString "inp", Str.ofString "rows", Str.ofString "offsets", Str.ofString "places", Str.ofString "code", Str.ofString "i"] _ (gcons (g_CodeIn X) (gcons (g_len X) (gcons (g_il_read_ins X) (gcons (g_places_of X) (gcons (g_range X) (gcons (g_place_targets X) (gcons (g_check_code X) gnil))))))) rfl (bind_decode _) (by kernel_rfl) ?_
  walk_at "start"
  walk_at "w"
  refine EV_callG (by walk_at "mem") (Kp_cls X (kp_CodeIn _)) ?_
  walk_at "w"
  refine C_CodeIn X fun x dx => ?_
  walk_at "w"
  refine EV_list (EVs_nil ⟨by decide, fun a => ?_⟩)
  walk_at "w"
  refine EV_list (EVs_nil ⟨by decide, fun b => ?_⟩)
  walk_at "w"
  have hO : ∀ j, 0 ≤ offAt cs L j ∧ offAt cs L j ≤ 100000 := by
    intro j
    rcases Nat.lt_or_ge cs.length j with q | q
    · have : offAt cs L j = 0 := by rw [offAt, List.getD_eq_getElem?_getD, List.getElem?_eq_none (by rw [offs_length hL]; lia)]; rfl
      lia
    · rw [offAt_eq ok hL q]
      have := encTo_mono cs L q
      lia
  have hDl : ∀ i, i < cs.length → (encTo cs L i).length < (encTo cs L cs.length).length := fun i hi => encTo_lt ok hL hi (Nat.le_refl _)
  have ho : ∀ i, i ≤ cs.length → (offs cs L)[i]? = some (offAt cs L i) := fun i hi => offs_get hL hi
  refine X1_perm (σ := inp x dx (encTo cs L cs.length) 0 :: .list b [] :: .list a [] :: σ) ?_ ?_
  · exact ((List.Perm.swap _ _ _).cons _).trans (List.Perm.swap _ _ _) |>.trans ((List.Perm.refl _))
  refine X1_while (fun k ρ τ => ∃ i, k = cs.length - i ∧ i ≤ cs.length ∧ ρ = deL (encTo cs L cs.length) t x a b none none none ∧
    τ = inp x dx (encTo cs L cs.length) (encTo cs L i).length :: .list b (((offs cs L).take i).map .int) :: .list a ((cs.take i).map fun r => rawMV r (offAt cs L)) :: σ) cs.length ⟨0, rfl, by lia, rfl, rfl⟩ ?_
  · rintro k ρ τ ⟨i, rfl, hi, rfl, rfl⟩
    walk_at "w"
    refine EV_at X (by walk_at "mem") List.mem_cons_self ?_
    walk_at "w"
    · rename_i hc
      rw [byteArr_size] at hc
      have hi : i < cs.length := by
        rcases Nat.lt_or_ge i cs.length with q | q
        · exact q
        · have : i = cs.length := by lia
          subst this; lia
      obtain ⟨r, hr, okr⟩ := ok_at ok hi
      obtain ⟨b0, hb0⟩ := bool_at (L := L) (i := i) (by walk_at "om")
      have hrow : Has (encTo cs L cs.length) (encTo cs L i).length (rowB r b0 (offAt cs L) (offAt cs L (i + 1))) := by
        have := has_row cs L hi
        rwa [rowAt, hr, hb0] at this
      have hlen : (encTo cs L (i + 1)).length = (encTo cs L i).length + (rowB r b0 (offAt cs L) 0).length := by
        rw [encTo_succ, List.length_append, rowAt, hr, hb0]
        show _ + (rowB r b0 (offAt cs L) (offAt cs L (i + 1))).length = _
        rw [rowB_len okr (offAt cs L) (offAt cs L) (offAt cs L (i + 1)) 0]
      have hnext := offAt_eq ok hL (i := i + 1) (by walk_at "om")
      rw [hlen] at hnext
      have hmono := encTo_mono cs L (i := i + 1) (n := cs.length) (by walk_at "om")
      walk_at "app"
      refine EV_at X (by walk_at "mem") List.mem_cons_self ?_
      walk_at "w"
      refine CALL_append (by walk_at "upd") (by rw [List.length_map, List.length_take, offs_length hL]; unfold sizeLine; lia) ?_
      rw [← offAt_eq ok hL (i := i) (by walk_at "om"), take_succ_map (f := MV.int) (ho i (by walk_at "om"))]
      walk_at "w"
      walk_at "app"
      refine C_read_ins (d := d) X (r := r) (b := b0) (O := offAt cs L) (encTo_in _ _ _) (by walk_at "om") okr (by rw [← hnext]; exact hrow) (by rw [← hlen]; exact hmono) hO (fun op n e hb hb1 => ?_) ?_
      · subst e hb1
        rw [← hnext]
        have := hfar i op n hr hb hb0
        simp only [far, farB, Bool.or_eq_false_iff, decide_eq_false_iff_not] at this
        lia
      walk_at "w"
      refine CALL_append (by walk_at "upd") (by rw [List.length_map, List.length_take]; unfold sizeLine; lia) ?_
      rw [take_succ_map (f := fun r => rawMV r (offAt cs L)) hr]
      walk_at "w"
      exact ⟨cs.length - (i + 1), by lia, i + 1, rfl, by lia, rfl, by rw [hlen]⟩
    · rename_i hc
      rw [byteArr_size] at hc
      have hi : i = cs.length := by
        rcases Nat.lt_or_ge i cs.length with q | q
        · have := hDl i q; lia
        · lia
      subst hi
      walk_at "w"
      walk_at "app"
      refine EV_at X (by walk_at "mem") List.mem_cons_self ?_
      walk_at "w"
      refine CALL_append (by walk_at "upd") (by rw [List.length_map, List.length_take, offs_length hL]; unfold sizeLine; lia) ?_
      rw [← offAt_eq ok hL (i := cs.length) (by walk_at "om"), take_succ_map (f := MV.int) (ho _ (by walk_at "om")), List.take_of_length_le (l := offs cs L) (by rw [offs_length hL]; lia), List.take_of_length_le (l := cs) (by walk_at "om")]
      walk_at "w"
      refine C_places_of (n := cs.length) X (IsL.at (by walk_at "mem")) (offs_length hL) (by walk_at "om") fun pl => ?_
      walk_at "s"
      walk_at "s"
      refine XV_freeze (.refl _) (.imap pl _ _) (by walk_at "frz") ?_
      refine XV_forget ?_
      walk_at "w"
      refine EV_list (EVs_nil ⟨by decide, fun c => ?_⟩)
      walk_at "w"
      refine X1_for (xs := (List.range cs.length).map fun i : Nat => .int i) (fun i ρ τ => ∃ o3, ρ = deL (encTo cs L cs.length) t x a b (some (.imap (placeG (offs cs L) cs.length))) (some (.ref c)) o3 ∧
        τ = .list c ((cs.take i).map Ins.mv) :: .list b ((offs cs L).map .int) :: .list a (cs.map fun r => rawMV r (offAt cs L)) :: σ) ?_ ?_ ?_ (by intro _; rfl) (by intro _ _; rfl)
      · walk_at "w"
        exact ⟨.rng _ (by walk_at "om") (by walk_at "om"), _, rfl, rfl⟩
      · rintro i m ρ τ hm ⟨o1, rfl, rfl⟩
        obtain ⟨hi, rfl⟩ := rng_get hm
        obtain ⟨r, hr, okr⟩ := ok_at ok hi
        walk_at "w"
        walk_at "app"
        have sub : (cs.map fun r => rawMV r (offAt cs L))[i]? = some (rawMV r (offAt cs L)) := by rw [List.getElem?_map, hr]; rfl
        refine SUB_list (IsL.at (by walk_at "mem")) (by walk_at "om") sub ?_
        walk_at "w"
        refine C_place_targets X okr (fun j hj => ?_) ?_
        · refine placeG_get (fun j k hj hk e => ?_) (by walk_at "om")
          have ej := offAt_eq ok hL (i := j) (by walk_at "om")
          have ek := offAt_eq ok hL (i := k) (by walk_at "om")
          change offAt cs L j = offAt cs L k at e
          rcases Nat.lt_trichotomy j k with q | q | q
          · have := encTo_lt ok hL q (by walk_at "om"); lia
          · exact q
          · have := encTo_lt ok hL q (by walk_at "om"); lia
        walk_at "w"
        refine CALL_append (by walk_at "upd") (by rw [List.length_map, List.length_take]; unfold sizeLine; lia) ?_
        rw [take_succ_map (f := Ins.mv) hr]
        walk_at "w"
        exact ⟨_, rfl, rfl⟩
      · rintro ρ τ ⟨o1, rfl, rfl⟩
        rw [List.length_map, List.length_range, List.take_of_length_le (l := cs) (by walk_at "om")]
        walk_at "s"
        refine XV_freeze (.refl _) (.list c _) (by walk_at "frz") ?_
        refine XV_freeze (.refl _) (.list b _) (by walk_at "frz") ?_
        walk_at "w"
        refine C_check_code X (by walk_at "om") ok ?_
        walk_at "w"
        exact ⟨_, _, .refl _, h⟩
end
theorem npl {a b : Int} (h0 : 0 < b) (h1 : b < 2 ^ 64) : Builtin.divisionGoesByPylong a b = false := by
  refine PyProof.noPylong_of_log2 ?_
  have : b.natAbs.log2 < 64 := (Nat.log2_lt (by lia)).2 (by lia)
  lia
theorem fm {a b : Int} (h : 0 < b) : a.fmod b = a % b := Int.fmod_eq_emod_of_nonneg a (by lia)
theorem fd {a b : Int} (h : 0 < b) : a.fdiv b = a / b := Int.fdiv_eq_ediv_of_nonneg a (by lia)
section
variable {prog : Program} {w : World} {h₀ : Heap} {d : Nat} {σ : List Res} {P : MV → List Res → Prop}
theorem C_draw (X : X0 w h₀) {ns : List Int} {a : Addr} {i : Nat} {n : Int} (h1 : 1 ≤ ns.length) (h2 : ns.length ≤ 1000) (hi : i ≤ 10000) (hn : 0 < n) (h : ∀ r, 0 ≤ r → r < n → P (.int r) (.list a [.int ((i + 1 : Nat) : Int)] :: σ)) :
    CALL prog w h₀ (d + 1) (.list a [.int (i : Int)] :: σ) (.ext (.ref 442)) [.list (ns.map .int), .ref a, .int n] P := by
  refine CALL_fnL (fn__law_draw X) X.lim rfl [Str.ofString "nums", Str.ofString "at", Str.ofString "n"] [Str.ofString "i", Str.ofString "k"] _ (gcons (g_len X) gnil) rfl (bind__law_draw _) (by kernel_rfl) ?_
  walk_at "start"
  walk_at "w"
  refine SUB_list (i := 0) (m := .int (i : Int)) (IsL.at (by walk_at "mem")) (by decide) rfl ?_
  walk_at "w"
  refine AS_sub ?_
  walk_at "w"
  refine SETI_list (i := 0) (m := .int ((i : Int) + 1)) (xs := [.int (i : Int)]) .head (by decide) (show (0 : Int) < 1 by decide) ?_
  walk_at "w"
  refine BIN_mod (by lia) ?_
  rw [fm (by walk_at "om")]
  have e1 : ns[((i : Int) % ns.length).toNat]? = some (ns.getD ((i : Int) % ns.length).toNat 0) := by
    have : ((i : Int) % ns.length).toNat < ns.length := by have := Int.emod_lt_of_pos (i : Int) (show (0 : Int) < ns.length by lia); have := Int.emod_nonneg (i : Int) (show (ns.length : Int) ≠ 0 by lia); lia
    rw [List.getD_eq_getElem?_getD, List.getElem?_eq_getElem this]; rfl
  have e2 : ns[(0 : Int).toNat]? = some (ns.getD 0 0) := by
    rw [List.getD_eq_getElem?_getD]; show ns[0]? = _; rw [List.getElem?_eq_getElem (by walk_at "om")]; rfl
  refine SUB_list .frozen (Int.emod_nonneg _ (by walk_at "om")) (get_map e1) ?_
  walk_at "w"
  refine BIN_div (by walk_at "om") (npl (by walk_at "om") (by walk_at "om")) ?_
  rw [fd (by walk_at "om")]
  walk_at "w"
  refine SUB_list (i := 0) .frozen (by decide) (get_map e2) ?_
  walk_at "w"
  refine BIN_mod (by decide) ?_
  walk_at "w"
  have hd : 0 ≤ (i : Int) / ns.length ∧ (i : Int) / ns.length ≤ i := ⟨Int.ediv_nonneg (by walk_at "om") (by walk_at "om"), Int.ediv_le_self _ (by walk_at "om")⟩
  refine BIN_mul ?_ (.inl (by walk_at "om"))
  walk_at "w"
  refine BIN_mod (by walk_at "om") ?_
  rw [fm hn]
  walk_at "w"
  exact h _ (Int.emod_nonneg _ (by walk_at "om")) (Int.emod_lt_of_pos _ hn)
end
theorem CompOk.of {h₀ : Heap} {env : Env} {ρ : Loc} {scope : Scope} {cl : List (Str × Addr)} {x : Str} {cap : Loc} {γc : List (Str × MV)} (clos : closureFor scope env = pure cl) (clp : cl.Pairwise fun x y => x.2 ≠ y.2) (cell : ∀ y ∈ scope.names, y.2 ≠ .cell)
    (kind : scope.kind = .function) (names : ∀ x ∈ scope.names, x.2 = .local → scope.names.lookup x.1 = some .local) (var : scope.names.lookup x = some .local)
    (glo : ∀ p ∈ γc, (relabel scope env).names.lookup p.1 = some .globalImplicit ∧ (p.1 == ("__debug__" : Str)) = false ∧ GlobF h₀.get? p.1 p.2)
    (dbg : ((x :: cap.map (·.1)).all fun y => !(y == ("__debug__" : Str))) = true) (keys : decide (x :: cap.map (·.1)).Nodup = true)
    (capk : ∀ p ∈ cap, p ∈ ρ ∧ env.kindOf p.1 = some .cell ∧ (relabel scope env).names.lookup p.1 = some .cell ∧ cl.lookup p.1 = env.cells.lookup p.1) : CompOk h₀ env ρ scope cl x cap γc :=
  ⟨clos, clp, cell, kind, names, var, glo, fun p hp => by
    have := List.all_eq_true.mp dbg p.1 (by
      rcases List.mem_cons.mp hp with rfl | hp
      · exact .head _
      · exact .tail _ (List.mem_map.mpr ⟨p, hp, rfl⟩))
    simpa using this, of_decide_eq_true keys, capk⟩
theorem all_nil {α : Type} {p : α → Prop} : ∀ x ∈ ([] : List α), p x := fun x hx => absurd hx (List.not_mem_nil)
local macro_rules | `(tactic| walk_at "cap") => `(tactic| first | exact all_nil | (refine all_cons ⟨by walk_at "mem", by with_unfolding_all rfl, by with_unfolding_all rfl, by with_unfolding_all rfl⟩ ?_; walk_at "cap"))
local macro_rules | `(tactic| walk_at "compok") => `(tactic| refine CompOk.of (by with_unfolding_all rfl) (by simp) (by decide +kernel) rfl (by decide +kernel) (by decide +kernel) ?_ (by kernel_rfl) (by kernel_rfl) (by walk_at "cap"))
section
variable {prog : Program} {w : World} {h₀ : Heap} {d : Nat} {σ : List Res} {P : MV → List Res → Prop}
theorem C_little (X : X0 w h₀) {n : Int} {wd : Nat} (hw : wd ≤ 8) (h : ∀ D, P (.ref D) (.list D ((le n wd).map .int) :: σ)) :
    CALL prog w h₀ (d + 1) σ (.ext (.ref 447)) [.int n, .int wd] P := by
  refine CALL_fnL (fn__law_little X) X.lim rfl [Str.ofString "n", Str.ofString "width"] [] _ (gcons (g_range X) gnil) rfl (bind__law_little _) (by kernel_rfl) ?_
  walk_at "start"
  walk_at "w"
  refine EV_compF (by first | assumption | rfl) (cl := [(Str.ofString "n", zL + 1)]) (cap := [(Str.ofString "n", some (.int n))]) (γc := []) (xs := (List.range wd).map fun i : Nat => .int i) ?_ (fun i ys τ => ys = (le n i).map .int ∧ τ = σ) ?_ ?_ ?_
  · walk_at "compok"
    exact all_nil
  · walk_at "w"
    exact ⟨.rng _ (by walk_at "om") (by walk_at "om"), by rw [List.length_map, List.length_range]; unfold sizeLine; lia, rfl, rfl⟩
  · rintro C K i m ys τ hm hy ⟨rfl, rfl⟩
    obtain ⟨hi, rfl⟩ := rng_get hm
    refine TSTS_nil ?_
    walk_at "w"
    refine BIN_pow (by walk_at "om") (by walk_at "om") (by decide) ?_
    rw [Int.toNat_natCast]
    have hp : (0 : Int) < 256 ^ i := Int.pow_pos (by decide)
    have hp2 : (256 : Int) ^ i < 2 ^ 64 := by
      have : i = 0 ∨ i = 1 ∨ i = 2 ∨ i = 3 ∨ i = 4 ∨ i = 5 ∨ i = 6 ∨ i = 7 := by lia
      rcases this with rfl | rfl | rfl | rfl | rfl | rfl | rfl | rfl <;> decide
    refine BIN_div (by walk_at "om") (npl hp hp2) ?_
    rw [fd hp]
    walk_at "w"
    refine BIN_mod (by decide) ?_
    rw [fm (by decide)]
    exact ⟨by rw [le_succ, List.map_append]; rfl, rfl⟩
  · rintro D ys τ ⟨rfl, rfl⟩
    rw [List.length_map, List.length_range]
    walk_at "w"
    exact h D
end
/-- a row of the fillings -/
structure Plain (x : Ins) : Prop where
  ok : ∀ c, x.Ok c
  nb : x.br = false
def sumS (rows : List Ins) : Int := (rows.map fun x => sizeL x false).sum
theorem sumS_append (a b : List Ins) : sumS (a ++ b) = sumS a + sumS b := by simp [sumS, List.sum_append]
theorem sumS_one (x : Ins) : sumS [x] = sizeL x false := by simp [sumS]
section
variable {prog : Program} {w : World} {h₀ : Heap} {d : Nat} {σ : List Res} {P : MV → List Res → Prop}
theorem C_fill (X : X0 w h₀) {size v : Int} (hs : 0 ≤ size) (hs2 : size ≤ 1000) (hv : 0 ≤ v ∧ v < 100) (h : ∀ D rows, (∀ x ∈ rows, Plain x) → sumS rows = size → rows.length ≤ 1000 → P (.ref D) (.list D (rows.map Ins.mv) :: σ)) :
    CALL prog w h₀ (d + 1) σ (.ext (.ref 454)) [.int size, .int v] P := by
  refine CALL_fnL (fn__law_fill X) X.lim rfl [Str.ofString "size", Str.ofString "v"] [Str.ofString "rows"] _ gnil rfl (bind__law_fill _) (by kernel_rfl) ?_
  walk_at "start"
  walk_at "w"
  refine EV_list (EVs_nil ⟨by decide, fun D => ?_⟩)
  walk_at "w"
  have add : ∀ {rows : List Ins} {x : Ins} {s k : Int}, (∀ x ∈ rows, Plain x) → Plain x → sumS rows + s = size → sizeL x false = k → (∀ y ∈ rows ++ [x], Plain y) ∧ sumS (rows ++ [x]) + (s - k) = size := fun {rows x s k} hp hx e ek => by
    refine ⟨fun y hy => (List.mem_append.mp hy).elim (hp y) fun hy => by rw [List.mem_singleton.mp hy]; exact hx, ?_⟩
    rw [sumS_append, sumS_one, ek]; lia
  refine X1_while (fun k ρ τ => ∃ rows s, k = s.toNat ∧ 0 ≤ s ∧ ρ = [(Str.ofString "size", some (.int s)), (Str.ofString "v", some (.int v)), (Str.ofString "rows", some (.ref D))] ∧ τ = .list D (rows.map Ins.mv) :: σ ∧ (∀ x ∈ rows, Plain x) ∧ sumS rows + s = size ∧ (rows.length : Int) + s ≤ size) size.toNat ⟨[], size, rfl, hs, rfl, rfl, all_nil, by simp [sumS], by simp⟩ ?_
  rintro k ρ τ ⟨rows, s, rfl, hs0, rfl, rfl, hp, hsum, hlen⟩
  walk_at "w"
  · walk_at "app"
    refine CALL_append (by walk_at "upd") (by rw [List.length_map]; unfold sizeLine; lia) ?_
    walk_at "w"
    obtain ⟨h1, h2⟩ := add (x := .num 33 (v - 7)) hp ⟨fun c => .i8 _ (by walk_at "om") (by walk_at "om"), rfl⟩ hsum rfl
    exact ⟨(s - 9).toNat, by lia, rows ++ [.num 33 (v - 7)], s - 9, rfl, by lia, rfl, by rw [List.map_append]; rfl, h1, h2, by rw [List.length_append]; simp; lia⟩
  · walk_at "app"
    refine CALL_append (by walk_at "upd") (by rw [List.length_map]; unfold sizeLine; lia) ?_
    walk_at "w"
    obtain ⟨h1, h2⟩ := add (x := .num 32 (128 + v)) (k := 5) hp ⟨fun c => .i4 _ (by walk_at "om") (by walk_at "om"), rfl⟩ hsum (by
      rw [sizeL_len (Ins.Ok.i4 (c := 0) _ (by walk_at "om") (by walk_at "om")) (fun _ => 0) 0, rowB_i4l (by walk_at "om"), List.length_cons, le_length]; rfl)
    exact ⟨(s - 5).toNat, by lia, rows ++ [.num 32 (128 + v)], s - 5, rfl, by lia, rfl, by rw [List.map_append]; rfl, h1, h2, by rw [List.length_append]; simp; lia⟩
  · walk_at "app"
    refine CALL_append (by walk_at "upd") (by rw [List.length_map]; unfold sizeLine; lia) ?_
    walk_at "w"
    obtain ⟨h1, h2⟩ := add (x := .num 65036 (256 + v)) (k := 4) hp ⟨fun c => .loc _ (by walk_at "om") (by walk_at "om"), rfl⟩ hsum rfl
    exact ⟨(s - 4).toNat, by lia, rows ++ [.num 65036 (256 + v)], s - 4, rfl, by lia, rfl, by rw [List.map_append]; rfl, h1, h2, by rw [List.length_append]; simp; lia⟩
  · walk_at "app"
    refine CALL_append (by walk_at "upd") (by rw [List.length_map]; unfold sizeLine; lia) ?_
    walk_at "w"
    obtain ⟨h1, h2⟩ := add (x := .num 32 (9 + v)) (k := 2) hp ⟨fun c => .i4 _ (by walk_at "om") (by walk_at "om"), rfl⟩ hsum (by
      rw [sizeL_len (Ins.Ok.i4 (c := 0) _ (by walk_at "om") (by walk_at "om")) (fun _ => 0) 0, rowB_i4s (by walk_at "om"), List.length_cons, le_length]; rfl)
    exact ⟨(s - 2).toNat, by lia, rows ++ [.num 32 (9 + v)], s - 2, rfl, by lia, rfl, by rw [List.map_append]; rfl, h1, h2, by rw [List.length_append]; simp; lia⟩
  · walk_at "app"
    refine CALL_append (by walk_at "upd") (by rw [List.length_map]; unfold sizeLine; lia) ?_
    walk_at "w"
    obtain ⟨h1, h2⟩ := add (x := .num 0 0) (k := 1) hp ⟨fun c => .none _ (.inl rfl), rfl⟩ hsum rfl
    exact ⟨(s - 1).toNat, by lia, rows ++ [.num 0 0], s - 1, rfl, by lia, rfl, by rw [List.map_append]; rfl, h1, h2, by rw [List.length_append]; simp; lia⟩
  · exact h D rows hp (by walk_at "om") (by walk_at "om")
theorem C_plain (X : X0 w h₀) {op n : Int} {b : Bool} {O : Nat → Int} {e c : Int} (ok : (Ins.num op n).Ok c) (nb : isBrN op = false) (h : ∀ D, P (.ref D) (.list D ((rowB (.num op n) b O e).map .int) :: σ)) :
    CALL prog w h₀ (d + 2) σ (.ext (.ref 490)) [.int op, .int n] P := by
  cases ok with
  | none op e =>
    rw [rowB_none e] at h
    refine CALL_fnL (fn__law_plain X) X.lim rfl [Str.ofString "op", Str.ofString "n"] [] _ (gcons (g__law_little X) gnil) rfl (bind__law_plain _) (by kernel_rfl) ?_
    walk_at "start"
    walk_at "w"
    refine EV_list ?_
    walk_at "w"
    exact fun D => zk _ _ (h D)
  | i8 n h0 h1 =>
    rw [rowB_i8] at h
    refine CALL_forget ?_
    refine CALL_fnL (fn__law_plain X) X.lim rfl [Str.ofString "op", Str.ofString "n"] [] _ (gcons (g__law_little X) gnil) rfl (bind__law_plain _) (by kernel_rfl) ?_
    walk_at "start"
    walk_at "w"
    refine EV_listF ?_
    walk_at "w"
    refine C_little (wd := 8) X (by walk_at "om") fun D => ?_
    refine BIN_addl .frozen (IsL.at (by walk_at "mem")) (by rw [List.length_map, le_length]; show 1 + 8 ≤ sizeLine; decide) fun D2 => ?_
    walk_at "w"
    exact ⟨_, _, List.Perm.swap _ _ _, h D2⟩
  | i4 n h0 h1 =>
    by_cases hn : n ≤ 127
    · rw [rowB_i4s hn] at h
      refine CALL_fnL (fn__law_plain X) X.lim rfl [Str.ofString "op", Str.ofString "n"] [] _ (gcons (g__law_little X) gnil) rfl (bind__law_plain _) (by kernel_rfl) ?_
      walk_at "start"
      walk_at "w"
      refine EV_list ?_
      walk_at "w"
      rw [show le n 1 = [n / 256 ^ 0 % 256] from rfl, show n / 256 ^ 0 % 256 = n by simp; lia] at h
      exact fun D => zk _ _ (h D)
    · rw [rowB_i4l hn] at h
      refine CALL_forget ?_
      refine CALL_fnL (fn__law_plain X) X.lim rfl [Str.ofString "op", Str.ofString "n"] [] _ (gcons (g__law_little X) gnil) rfl (bind__law_plain _) (by kernel_rfl) ?_
      walk_at "start"
      walk_at "w"
      refine EV_listF ?_
      walk_at "w"
      refine C_little (wd := 4) X (by walk_at "om") fun D => ?_
      refine BIN_addl .frozen (IsL.at (by walk_at "mem")) (by rw [List.length_map, le_length]; show 1 + 4 ≤ sizeLine; decide) fun D2 => ?_
      walk_at "w"
      exact ⟨_, _, List.Perm.swap _ _ _, h D2⟩
  | loc n h0 h1 =>
    rw [rowB_loc] at h
    refine CALL_forget ?_
    refine CALL_fnL (fn__law_plain X) X.lim rfl [Str.ofString "op", Str.ofString "n"] [] _ (gcons (g__law_little X) gnil) rfl (bind__law_plain _) (by kernel_rfl) ?_
    walk_at "start"
    walk_at "w"
    refine EV_listF ?_
    walk_at "w"
    refine C_little (wd := 2) X (by walk_at "om") fun D => ?_
    refine BIN_addl .frozen (IsL.at (by walk_at "mem")) (by rw [List.length_map, le_length]; show 2 + 2 ≤ sizeLine; decide) fun D2 => ?_
    walk_at "w"
    exact ⟨_, _, List.Perm.swap _ _ _, h D2⟩
  | br op n hb => rw [nb] at hb; cases hb
end
noncomputable def atI (l : List Int) (i : Nat) : Int := l.getD i 0
theorem atI_get {l : List Int} {i : Nat} (h : i < l.length) : l[i]? = some (atI l i) := by rw [atI, List.getD_eq_getElem?_getD, List.getElem?_eq_getElem h]; rfl
noncomputable def sameN (sides : List Int) (r : Nat) : Nat := ((List.range r).filter fun c => atI sides c == atI sides r).length
noncomputable def otherN (sides : List Int) (r : Nat) : Nat := (sides.filter fun s => s != atI sides r).length
noncomputable def goalN (sides spare : List Int) (gap : Int) (r : Nat) : Int := 127 - atI sides r - atI spare r - 2 * sameN sides r - 2 * otherN sides r - gap
theorem fr_yes {p : Nat → Bool} {i : Nat} {α : Type} {f : Nat → α} (h : p i = true) : ((List.range i).filter p).map f ++ [f i] = ((List.range (i + 1)).filter p).map f := by
  rw [List.range_succ, List.filter_append, List.filter_cons_of_pos h, List.map_append]; rfl
theorem fr_no {p : Nat → Bool} {i : Nat} {α : Type} {f : Nat → α} (h : p i = false) : ((List.range i).filter p).map f = ((List.range (i + 1)).filter p).map f := by
  rw [List.range_succ, List.filter_append, List.filter_cons_of_neg (by rw [h]; decide), List.map_append]; simp
theorem ft_yes {α β : Type} {p : α → Bool} {l : List α} {x : α} {i : Nat} {f : α → β} (hx : l[i]? = some x) (h : p x = true) : ((l.take i).filter p).map f ++ [f x] = ((l.take (i + 1)).filter p).map f := by
  rw [List.take_add_one, hx, Option.toList_some, List.filter_append, List.filter_cons_of_pos h, List.map_append]; rfl
theorem ft_no {α β : Type} {p : α → Bool} {l : List α} {x : α} {i : Nat} {f : α → β} (hx : l[i]? = some x) (h : p x = false) : ((l.take i).filter p).map f = ((l.take (i + 1)).filter p).map f := by
  rw [List.take_add_one, hx, Option.toList_some, List.filter_append, List.filter_cons_of_neg (by rw [h]; decide), List.map_append]; simp
section
variable {prog : Program} {w : World} {h₀ : Heap} {d : Nat} {σ : List Res} {P : MV → List Res → Prop}
theorem C_goal (X : X0 w h₀) {sides spare : List Int} {gap : Int} {r : Nat} (hl : sides.length ≤ 1000) (h1 : r < sides.length) (h2 : r < spare.length) (h : P (.int (goalN sides spare gap r)) σ) :
    CALL prog w h₀ (d + 1) σ (.ext (.ref 471)) [.list (sides.map .int), .list (spare.map .int), .int gap, .int r] P := by
  refine CALL_forget (CALL_forget ?_)
  refine CALL_fnL (fn__law_goal X) X.lim rfl [Str.ofString "sides", Str.ofString "spare", Str.ofString "gap", Str.ofString "r"] [Str.ofString "same", Str.ofString "other"] _ (gcons (g_len X) (gcons (g_range X) gnil)) rfl (bind__law_goal _) (by kernel_rfl) ?_
  walk_at "start"
  have hr := atI_get h1
  walk_at "w"
  refine EV_compF (by first | assumption | rfl) (cl := [(Str.ofString "sides", zL + 1), (Str.ofString "r", zL + 2)]) (cap := [(Str.ofString "sides", some (.list (sides.map .int))), (Str.ofString "r", some (.int r))]) (γc := []) (xs := (List.range r).map fun i : Nat => .int i) ?_ (fun i ys τ => ys = ((List.range i).filter fun c => atI sides c == atI sides r).map (fun i : Nat => .int i) ∧ τ = σ) ?_ ?_ ?_
  · walk_at "compok"
    exact all_nil
  · walk_at "w"
    exact ⟨.rng _ (by walk_at "om") (by walk_at "om"), by rw [List.length_map, List.length_range]; unfold sizeLine; lia, rfl, rfl⟩
  · rintro C K i m ys τ hm hy ⟨rfl, rfl⟩
    obtain ⟨hi, rfl⟩ := rng_get hm
    refine TSTS_one ?_
    walk_at "w"
    refine SUB_list .frozen (by walk_at "om") (get_map (k := i) (atI_get (by walk_at "om"))) ?_
    walk_at "w"
    refine SUB_list .frozen (by walk_at "om") (get_map (k := r) hr) ?_
    walk_at "w"
    · rename_i hc
      exact ⟨fr_yes (p := fun c => atI sides c == atI sides r) (f := fun i : Nat => MV.int i) (by simpa using hc), rfl⟩
    · rename_i hc
      exact ⟨fr_no (p := fun c => atI sides c == atI sides r) (f := fun i : Nat => MV.int i) (by simpa using hc), rfl⟩
  · rintro D ys τ ⟨rfl, rfl⟩
    rw [List.length_map, List.length_range]
    walk_at "w"
    refine EV_compF (by first | assumption | rfl) (cl := [(Str.ofString "sides", zL + 1), (Str.ofString "r", zL + 2)]) (cap := [(Str.ofString "sides", some (.list (sides.map .int))), (Str.ofString "r", some (.int r))]) (γc := []) (xs := sides.map .int) ?_ (fun i ys τ' => ys = ((sides.take i).filter fun s => s != atI sides r).map .int ∧ τ' = .list D (((List.range r).filter fun c => atI sides c == atI sides r).map (fun i : Nat => .int i)) :: τ) ?_ ?_ ?_
    · walk_at "compok"
      exact all_nil
    · walk_at "w"
      exact ⟨.list _, by rw [List.length_map]; unfold sizeLine; lia, rfl, rfl⟩
    · rintro C K i m ys τ hm hy ⟨rfl, rfl⟩
      obtain ⟨x, hx, rfl⟩ := map_get hm
      refine TSTS_one ?_
      walk_at "w"
      refine SUB_list .frozen (by walk_at "om") (get_map (k := r) hr) ?_
      walk_at "w"
      · rename_i hc
        exact ⟨ft_yes (p := fun s => s != atI sides r) (f := MV.int) hx (by simpa using hc), rfl⟩
      · rename_i hc
        exact ⟨ft_no (p := fun s => s != atI sides r) (f := MV.int) hx (by simpa using hc), rfl⟩
    · rintro D2 ys τ ⟨rfl, rfl⟩
      rw [show (sides.map MV.int).length = sides.length from List.length_map _, List.take_length]
      walk_at "w"
      refine SUB_list .frozen (by walk_at "om") (get_map (k := r) hr) ?_
      walk_at "w"
      refine SUB_list .frozen (by walk_at "om") (get_map (k := r) (atI_get h2)) ?_
      walk_at "w"
      exact ⟨_, _, .refl _, _, _, .refl _, h⟩
end
noncomputable def pickN (sides : List Int) (k r : Nat) : List Nat := (List.range k).filter fun c => atI sides c != atI sides r || decide (c < r)
noncomputable def pushN (sides g : List Int) (r : Nat) : Int := ((pickN sides sides.length r).map (atI g)).sum
structure G01 (k : Nat) (g : List Int) : Prop where
  len : g.length = k
  bit : ∀ r, r < k → atI g r = 0 ∨ atI g r = 1
def Closed (sides spare g : List Int) : Prop := ∀ r, r < sides.length → 3 * pushN sides g r > atI spare r → atI g r = 1
def LeI (k : Nat) (g h : List Int) : Prop := ∀ r, r < k → atI g r ≤ atI h r
structure Grown (sides spare g : List Int) : Prop where
  g01 : G01 sides.length g
  clo : Closed sides spare g
  lst : ∀ h, G01 sides.length h → Closed sides spare h → LeI sides.length g h
theorem sum_le_map {l : List Nat} {f g : Nat → Int} (h : ∀ x ∈ l, f x ≤ g x) : (l.map f).sum ≤ (l.map g).sum := by
  induction l with
  | nil => exact Int.le_refl _
  | cons x l ih =>
    rw [List.map_cons, List.map_cons, List.sum_cons, List.sum_cons]
    have := h x (.head _)
    have := ih fun y hy => h y (.tail _ hy)
    lia
theorem pick_lt {sides : List Int} {k r c : Nat} (h : c ∈ pickN sides k r) : c < k := List.mem_range.mp (List.mem_filter.mp h).1
theorem push_mono {sides g h : List Int} (l : LeI sides.length g h) (r : Nat) : pushN sides g r ≤ pushN sides h r := sum_le_map fun c hc => l c (pick_lt hc)
theorem sum01 : ∀ {g : List Int}, (∀ x ∈ g, x = 0 ∨ x = 1) → 0 ≤ g.sum ∧ g.sum ≤ g.length
  | [], _ => by simp
  | x :: g, h => by
    have := h x (.head _)
    have := sum01 (g := g) fun y hy => h y (.tail _ hy)
    rw [List.sum_cons, List.length_cons]
    lia
theorem G01.mem {k : Nat} {g : List Int} (h : G01 k g) : ∀ x ∈ g, x = 0 ∨ x = 1 := by
  intro x hx
  obtain ⟨i, hi, rfl⟩ := List.mem_iff_getElem.mp hx
  have := h.bit i (by rw [← h.len]; exact hi)
  rw [atI, List.getD_eq_getElem?_getD, List.getElem?_eq_getElem hi] at this
  exact this
theorem atI_set {g : List Int} {r i : Nat} {v : Int} (hr : r < g.length) : atI (g.set r v) i = if i = r then v else atI g i := by
  unfold atI
  rw [List.getD_eq_getElem?_getD, List.getD_eq_getElem?_getD, List.getElem?_set]
  by_cases e : r = i
  · subst e; rw [if_pos rfl, if_pos hr, if_pos rfl]; rfl
  · rw [if_neg e, if_neg (fun q => e q.symm)]
theorem sum_set : ∀ {g : List Int} {r : Nat} {v : Int}, r < g.length → (g.set r v).sum = g.sum + (v - atI g r)
  | [], _, _, h => by simp at h
  | x :: g, 0, v, _ => by
    show v + g.sum = x + g.sum + (v - x); lia
  | x :: g, r + 1, v, h => by
    have := sum_set (g := g) (r := r) (v := v) (by simpa using h)
    show x + (g.set r v).sum = x + g.sum + (v - atI g r)
    lia
theorem set_self' {g : List Int} {r : Nat} {v : Int} (h : atI g r = v) (hr : r < g.length) : g.set r v = g := by
  apply List.ext_getElem?
  intro i
  rw [List.getElem?_set]
  by_cases e : r = i
  · subst e; rw [if_pos rfl, if_pos hr, atI_get hr, h]
  · rw [if_neg e]
structure GrIn (sides spare g g' : List Int) (r : Nat) : Prop where
  g01 : G01 sides.length g'
  lst : ∀ h, G01 sides.length h → Closed sides spare h → LeI sides.length g' h
  res : (g' = g ∧ ∀ r', r' < r → 3 * pushN sides g r' > atI spare r' → atI g r' = 1) ∨ g.sum < g'.sum
theorem GrIn.no {sides spare g g' : List Int} {r : Nat} (h : GrIn sides spare g g' r) (hn : ¬ 3 * pushN sides g' r > atI spare r) : GrIn sides spare g g' (r + 1) :=
  ⟨h.g01, h.lst, h.res.imp_left fun ⟨e, q⟩ => ⟨e, fun r' hr' hp => (Nat.lt_or_ge r' r).elim (fun l => q r' l hp) fun l => by
    have : r' = r := by lia
    subst this; rw [e] at hn; exact absurd hp hn⟩⟩
theorem GrIn.yes {sides spare g g' : List Int} {r : Nat} (h : GrIn sides spare g g' r) (hr : r < sides.length) (hy : 3 * pushN sides g' r > atI spare r) : GrIn sides spare g (g'.set r 1) (r + 1) := by
  have hl : r < g'.length := by rw [h.g01.len]; exact hr
  refine ⟨⟨by rw [List.length_set]; exact h.g01.len, fun i hi => ?_⟩, fun f hf hc i hi => ?_, ?_⟩
  · rw [atI_set hl]; split
    · exact .inr rfl
    · exact h.g01.bit i hi
  · rw [atI_set hl]; split
    · rename_i e; subst e
      rw [hc i hi (by have := push_mono (h.lst f hf hc) i; lia)]
      exact Int.le_refl _
    · exact h.lst f hf hc i hi
  · rcases h.g01.bit r hr with e | e
    · right
      rw [sum_set hl, e]
      rcases h.res with ⟨q, _⟩ | q
      · rw [q]; lia
      · lia
    · rw [set_self' e hl]
      refine h.res.imp_left fun ⟨q, k⟩ => ⟨q, fun r' hr' hp => (Nat.lt_or_ge r' r).elim (fun l => k r' l hp) fun l => by
        have : r' = r := by lia
        subst this; rw [← q]; exact e⟩
section
variable {prog : Program} {w : World} {h₀ : Heap} {d : Nat} {σ : List Res} {P : MV → List Res → Prop}
theorem C_grown (X : X0 w h₀) {sides spare : List Int} (hl : sides.length ≤ 1000) (h2 : spare.length = sides.length) (h : ∀ D g, Grown sides spare g → P (.ref D) (.list D (g.map .int) :: σ)) :
    CALL prog w h₀ (d + 1) σ (.ext (.ref 466)) [.list (sides.map .int), .list (spare.map .int)] P := by
  refine CALL_fnL (fn__law_grown X) X.lim rfl [Str.ofString "sides", Str.ofString "spare"] [Str.ofString "k", Str.ofString "grown", Str.ofString "was", Str.ofString "r", Str.ofString "pushes"] _ (gcons (g_len X) (gcons (g_sum X) (gcons (g_range X) gnil))) rfl (bind__law_grown _) (by kernel_rfl) ?_
  walk_at "start"
  walk_at "w"
  refine EV_listF ?_
  walk_at "w"
  refine BIN_mull .frozen (by lia) fun D => ?_
  rw [Int.toNat_natCast, show List.replicate sides.length (MV.int 0) = (List.replicate sides.length (0 : Int)).map .int by simp]
  walk_at "w"
  have h0 : G01 sides.length (List.replicate sides.length (0 : Int)) := ⟨by simp, fun r hr => .inl (by simp [atI, List.getD_eq_getElem?_getD, List.getElem?_replicate, hr])⟩
  refine X1_while (fun n ρ τ => ∃ g was o1 o2, ρ = [(Str.ofString "sides", some (.list (sides.map .int))), (Str.ofString "spare", some (.list (spare.map .int))), (Str.ofString "k", some (.int sides.length)), (Str.ofString "grown", some (.ref D)), (Str.ofString "was", some (.int was)), (Str.ofString "r", o1), (Str.ofString "pushes", o2)] ∧ τ = .list D (g.map .int) :: σ ∧
    G01 sides.length g ∧ (∀ h, G01 sides.length h → Closed sides spare h → LeI sides.length g h) ∧ was ≤ g.sum ∧ (was = g.sum → Closed sides spare g) ∧ n = if was < g.sum then (sides.length - g.sum).toNat + 1 else 0) _ ⟨List.replicate sides.length 0, -1, none, none, rfl, rfl, h0, fun f hf _ r hr => ?_, ?_, fun e => ?_, rfl⟩ ?_
  · have := hf.bit r hr
    have e : atI (List.replicate sides.length 0) r = 0 := by simp [atI, List.getD_eq_getElem?_getD, List.getElem?_replicate, hr]
    lia
  · have := sum01 h0.mem; lia
  · have := sum01 h0.mem; lia
  rintro n ρ τ ⟨g, was, o1, o2, rfl, rfl, g01, lst, hle, hcl, rfl⟩
  walk_at "w"
  refine CALL_sum (IsL.at (by walk_at "mem")) ?_
  walk_at "w"
  · rename_i hc
    refine CALL_sum (IsL.at (by walk_at "mem")) ?_
    walk_at "w"
    refine X1_for (xs := (List.range sides.length).map fun i : Nat => .int i) (fun r ρ τ => ∃ g' o1 o2, ρ = [(Str.ofString "sides", some (.list (sides.map .int))), (Str.ofString "spare", some (.list (spare.map .int))), (Str.ofString "k", some (.int sides.length)), (Str.ofString "grown", some (.ref D)), (Str.ofString "was", some (.int g.sum)), (Str.ofString "r", o1), (Str.ofString "pushes", o2)] ∧ τ = .list D (g'.map .int) :: σ ∧ GrIn sides spare g g' r) ?_ ?_ ?_
    · walk_at "w"
      exact ⟨.rng _ (by walk_at "om") (by walk_at "om"), g, _, _, rfl, rfl, g01, lst, .inl ⟨rfl, fun r hr => absurd hr (by walk_at "om")⟩⟩
    · rintro r m ρ τ hm ⟨g', o1, o2, rfl, rfl, hG⟩
      obtain ⟨hr, rfl⟩ := rng_get hm
      walk_at "w"
      refine EV_compF (by first | assumption | rfl) (cl := [(Str.ofString "sides", zL + 1), (Str.ofString "r", zL + 3), (Str.ofString "grown", zL + 2)]) (cap := [(Str.ofString "sides", some (.list (sides.map .int))), (Str.ofString "r", some (.int r)), (Str.ofString "grown", some (.ref D))]) (γc := []) (xs := (List.range sides.length).map fun i : Nat => .int i) ?_ (fun i ys τ => ys = (pickN sides i r).map (fun c => MV.int (atI g' c)) ∧ τ = .list D (g'.map .int) :: σ) ?_ ?_ ?_
      · walk_at "compok"
        exact all_nil
      · walk_at "w"
        exact ⟨.rng _ (by walk_at "om") (by walk_at "om"), by rw [List.length_map, List.length_range]; unfold sizeLine; lia, rfl, rfl⟩
      · rintro C K i m ys τ hm' hy ⟨rfl, rfl⟩
        obtain ⟨hi, rfl⟩ := rng_get hm'
        have gi := get_map (k := i) (atI_get (l := g') (by rw [hG.g01.len]; exact hi))
        refine TSTS_one ?_
        walk_at "w"
        refine SUB_list .frozen (by walk_at "om") (get_map (k := i) (atI_get (l := sides) hi)) ?_
        walk_at "w"
        refine SUB_list .frozen (by walk_at "om") (get_map (k := r) (atI_get (l := sides) hr)) ?_
        walk_at "w"
        · rename_i hq hc
          exact ⟨fr_no (p := fun c => atI sides c != atI sides r || decide (c < r)) (f := fun c => MV.int (atI g' c)) (by simp [hq]; lia), rfl⟩
        · rename_i hq hc
          refine SUB_list (IsL.at (by walk_at "mem")) (by walk_at "om") gi ?_
          exact ⟨fr_yes (p := fun c => atI sides c != atI sides r || decide (c < r)) (f := fun c => MV.int (atI g' c)) (by simp [hq]; lia), rfl⟩
        · rename_i hq
          refine SUB_list (IsL.at (by walk_at "mem")) (by walk_at "om") gi ?_
          exact ⟨fr_yes (p := fun c => atI sides c != atI sides r || decide (c < r)) (f := fun c => MV.int (atI g' c)) (by simp [hq]), rfl⟩
      · rintro E ys τ ⟨rfl, rfl⟩
        rw [show ((List.range sides.length).map fun i : Nat => MV.int i).length = sides.length by rw [List.length_map, List.length_range], show (pickN sides sides.length r).map (fun c => MV.int (atI g' c)) = ((pickN sides sides.length r).map (atI g')).map .int by rw [List.map_map]; rfl]
        walk_at "w"
        refine CALL_sum (IsL.at (by walk_at "mem")) ?_
        walk_at "s"
        walk_at "s"
        refine XV_forget ?_
        walk_at "w"
        refine SUB_list .frozen (by walk_at "om") (get_map (k := r) (atI_get (l := spare) (by walk_at "om"))) ?_
        walk_at "w"
        · rename_i hc
          refine AS_sub ?_
          walk_at "w"
          refine SETI_list (i := (r : Int)) (m := .int 1) .head (by walk_at "om") (by rw [List.length_map, hG.g01.len]; lia) ?_
          rw [Int.toNat_natCast, ← List.map_set]
          walk_at "w"
          exact ⟨_, _, _, rfl, rfl, hG.yes hr hc⟩
        · rename_i hc
          exact ⟨_, _, _, rfl, rfl, hG.no hc⟩
    · rintro ρ τ ⟨g', o1, o2, rfl, rfl, hG⟩
      rw [List.length_map, List.length_range] at hG
      walk_at "w"
      have hs1 := sum01 g01.mem
      have hs2 := sum01 hG.g01.mem
      rw [hG.g01.len] at hs2
      refine ⟨_, ?_, g', g.sum, _, _, rfl, rfl, hG.g01, hG.lst, ?_, ?_, rfl⟩
      · rw [if_pos hc]
        rcases hG.res with ⟨e, _⟩ | q
        · rw [e, if_neg (by walk_at "om")]; lia
        · rw [if_pos q]; lia
      · rcases hG.res with ⟨e, _⟩ | q
        · rw [e]; exact Int.le_refl _
        · lia
      · intro e
        rcases hG.res with ⟨e, q⟩ | q
        · rw [e]; exact q
        · lia
  · rename_i hc
    walk_at "w"
    exact h D g ⟨g01, hcl (by walk_at "om"), lst⟩
end
theorem len_le_sumS : ∀ {rows : List Ins}, (∀ x ∈ rows, Plain x) → (rows.length : Int) ≤ sumS rows
  | [], _ => by simp [sumS]
  | x :: rows, h => by
    have := len_le_sumS (rows := rows) fun y hy => h y (.tail _ hy)
    have h1 := sizeL_pos (b := false) ((h x (.head _)).ok 0)
    show ((rows.length + 1 : Nat) : Int) ≤ sizeL x false + sumS rows
    lia
def ZoneOk (rows : List Ins) (g : Int → Option MV) (goal : Int) : Prop := ∃ k : Nat, g goal = some (.int k) ∧ k ≤ rows.length ∧ sumS (rows.take k) = goal
theorem ZoneOk.grow {rows more : List Ins} {g : Int → Option MV} {goal x : Int} {m : MV} (h : ZoneOk rows g goal) (hx : goal ≠ x) : ZoneOk (rows ++ more) (fun y => if y = x then some m else g y) goal := by
  obtain ⟨k, h1, h2, h3⟩ := h
  exact ⟨k, (if_neg hx).trans h1, by rw [List.length_append]; lia, by rw [List.take_append_of_le_length h2]; exact h3⟩
theorem ZoneOk.new {rows : List Ins} {g : Int → Option MV} {x : Int} (h : sumS rows = x) : ZoneOk rows (fun y => if y = x then some (.int rows.length) else g y) x :=
  ⟨rows.length, if_pos rfl, Nat.le_refl _, by rw [List.take_length]; exact h⟩
noncomputable def srt (ns : List Int) : List Int := ns.mergeSort (fun a b => decide (a ≤ b))
theorem srt_perm (ns : List Int) : (srt ns).Perm ns := List.mergeSort_perm _ _
theorem srt_pw (ns : List Int) : (srt ns).Pairwise (· ≤ ·) := by
  have := List.pairwise_mergeSort (le := fun a b : Int => decide (a ≤ b)) (fun a b c h1 h2 => by simp at *; lia) (fun a b => by simp; lia) ns
  exact this.imp fun h => by simpa using h
theorem srt_eq {ns ns' : List Int} (p : ns'.Perm ns) (h : ns'.Pairwise (· ≤ ·)) : ns' = srt ns :=
  List.Perm.eq_of_pairwise (le := fun a b : Int => a ≤ b) (fun a b _ _ h1 h2 => by lia) h (srt_pw ns) (p.trans (srt_perm ns).symm)
section
variable {prog : Program} {w : World} {h₀ : Heap} {d : Nat} {σ : List Res} {P : MV → List Res → Prop}
theorem C_zone (X : X0 w h₀) {u : MV} {ns : List Int} {v : Int} (I : IsL σ u (ns.map .int)) (h64 : ns.length < 64) (hn : ∀ n ∈ ns, 0 ≤ n ∧ n ≤ 1000) (hv : 0 ≤ v ∧ v < 100)
    (h : ∀ rows g, (∀ x ∈ rows, Plain x) → (∀ n ∈ ns, ZoneOk rows g n) → sumS rows ≤ 1000 → P (.tup [.list (rows.map Ins.mv), .imap g]) σ) :
    CALL prog w h₀ (d + 2) σ (.ext (.ref 478)) [u, .int v] P := by
  refine CALL_fnL (fn__law_zone X) X.lim rfl [Str.ofString "goals", Str.ofString "v"] [Str.ofString "rows", Str.ofString "places", Str.ofString "was", Str.ofString "goal"] _ (gcons (g_sorted X) (gcons (g__law_fill X) (gcons (g_len X) gnil))) rfl (bind__law_zone _) (by kernel_rfl) ?_
  walk_at "start"
  walk_at "w"
  refine EV_list (EVs_nil ⟨by decide, fun R => ?_⟩)
  walk_at "w"
  refine EV_dict0 X.sm fun G => ?_
  walk_at "w"
  refine X1_for (xs := (srt ns).map .int) (fun i ρ τ => ∃ rows g was o1, ρ = [(Str.ofString "goals", some u), (Str.ofString "v", some (.int v)), (Str.ofString "rows", some (.ref R)), (Str.ofString "places", some (.ref G)), (Str.ofString "was", some (.int was)), (Str.ofString "goal", o1)] ∧
    τ = .imap G g i :: .list R (rows.map Ins.mv) :: σ ∧ (∀ x ∈ rows, Plain x) ∧ sumS rows = was ∧ 0 ≤ was ∧ was ≤ 1000 ∧ (∀ (j : Nat) n, i ≤ j → (srt ns)[j]? = some n → was ≤ n) ∧ ∀ (j : Nat) n, j < i → (srt ns)[j]? = some n → ZoneOk rows g n) ?_ ?_ ?_ (by intro _; rfl) (by intro _ _; rfl)
  · walk_at "w"
    refine CALL_sorted I.cons.cons h64 fun ns' hp hs => ?_
    rw [srt_eq hp hs]
    refine ⟨.list _, [], _, 0, none, rfl, rfl, all_nil, rfl, by lia, by lia, fun j n _ hj => ?_, fun j n hj => absurd hj (by walk_at "om")⟩
    exact (hn n ((srt_perm ns).mem_iff.mp (List.mem_of_getElem? hj))).1
  · rintro i m ρ τ hm ⟨rows, g, was, o1, rfl, rfl, hp, hsum, hw0, hw1, hw, hz⟩
    obtain ⟨n, hnx, rfl⟩ := map_get hm
    have hn1 := hn n ((srt_perm ns).mem_iff.mp (List.mem_of_getElem? hnx))
    have hwn := hw i n (Nat.le_refl _) hnx
    have hi : i < 64 := by
      have := (List.getElem?_eq_some_iff.mp hnx).1
      rw [(srt_perm ns).length_eq] at this; lia
    have hlen := len_le_sumS hp
    walk_at "w"
    refine C_fill X (by walk_at "om") (by walk_at "om") hv fun F more hmore hsm _ => ?_
    have hlen2 := len_le_sumS hmore
    walk_at "w"
    refine INP_addl (xs := rows.map Ins.mv) (ys := more.map Ins.mv) (.tail (.tail .head)) (IsL.at (by walk_at "mem")) (by rw [List.length_map, List.length_map]; unfold sizeLine; lia) ?_
    walk_at "s"
    walk_at "s"
    refine XV_forget ?_
    rw [← List.map_append]
    walk_at "w"
    refine AS_sub ?_
    walk_at "w"
    refine SETI_map .head (by unfold sizeLine; lia) ?_
    walk_at "w"
    have hall : sumS (rows ++ more) = n := by rw [sumS_append]; lia
    refine ⟨rows ++ more, _, n, _, rfl, rfl, fun x hx => (List.mem_append.mp hx).elim (hp x) (hmore x), hall, by lia, by lia, fun j n' hj hn' => ?_, fun j n' hj hn' => ?_⟩
    · have pw := srt_pw ns
      rw [List.pairwise_iff_getElem] at pw
      obtain ⟨h1, e1⟩ := List.getElem?_eq_some_iff.mp hnx
      obtain ⟨h2, e2⟩ := List.getElem?_eq_some_iff.mp hn'
      have := pw i j h1 h2 (by walk_at "om")
      rw [e1, e2] at this
      exact this
    · by_cases e : n' = n
      · subst e
        exact ZoneOk.new hall
      · have hji : j < i := by
          rcases Nat.lt_or_ge j i with q | q
          · exact q
          · have : j = i := by lia
            subst this; rw [hnx] at hn'; cases hn'; exact absurd rfl e
        exact (hz j n' hji hn').grow e
  · rintro ρ τ ⟨rows, g, was, o1, rfl, rfl, hp, hsum, hw0, hw1, hw, hz⟩
    rw [List.length_map] at hz
    refine Cn_next ?_
    refine XV_freeze (.refl _) (.imap G _ _) (by walk_at "frz") ?_
    refine XV_freeze (.refl _) (.list R _) (by walk_at "frz") ?_
    walk_at "w"
    refine h rows g hp (fun n hn' => ?_) (by walk_at "om")
    obtain ⟨j, hj, e⟩ := List.mem_iff_getElem.mp ((srt_perm ns).mem_iff.mpr hn')
    exact hz j n hj (by rw [List.getElem?_eq_getElem hj, e])
end
theorem atI_snoc {l : List Int} {x : Int} {j : Nat} (h : j < l.length) : atI (l ++ [x]) j = atI l j := by
  unfold atI; rw [List.getD_eq_getElem?_getD, List.getElem?_append_left h, ← List.getD_eq_getElem?_getD]
theorem atI_last {l : List Int} {x : Int} : atI (l ++ [x]) l.length = x := by
  unfold atI; rw [List.getD_eq_getElem?_getD]; simp
structure Ladder (k : Nat) (sides spare ops : List Int) (gap : Int) : Prop where
  k3 : 3 ≤ k
  k10 : k ≤ 10
  l1 : sides.length = k
  l2 : spare.length = k
  l3 : ops.length = k
  sd : ∀ r, r < k → atI sides r = 0 ∨ atI sides r = 1
  sp : ∀ r, r < k → -1 ≤ atI spare r ∧ atI spare r ≤ 3 * r
  op : ∀ r, r < k → isBrN (atI ops r) = true
  gp : 131 - 5 * (k : Int) - 11 ≤ gap ∧ gap ≤ 131 - 5 * k
theorem up4 {x y z a : Res} {σ : List Res} : (x :: y :: z :: a :: σ).Perm (a :: x :: y :: z :: σ) := List.perm_middle (l₁ := [x, y, z])
section
variable {prog : Program} {w : World} {h₀ : Heap} {d : Nat} {σ : List Res} {P : MV → List Res → Prop}
noncomputable abbrev laL (ns : List Int) (a : Addr) (size : Int) (k : Nat) (gap : Int) (S Sp O : Addr) (o1 o2 o3 : Option MV) : Loc := [(Str.ofString "nums", some (.list (ns.map .int))), (Str.ofString "at", some (.ref a)), (Str.ofString "size", some (.int size)), (Str.ofString "k", some (.int k)), (Str.ofString "gap", some (.int gap)), (Str.ofString "sides", some (.ref S)), (Str.ofString "spare", some (.ref Sp)), (Str.ofString "ops", some (.ref O)), (Str.ofString "r", o1), (Str.ofString "op", o2), (Str.ofString "q", o3)]
theorem C_ladder (X : X0 w h₀) {ns : List Int} {a : Addr} {i : Nat} {size : Int} (h1 : 1 ≤ ns.length) (h2 : ns.length ≤ 1000) (hi : i ≤ 1000)
    (h : ∀ k sides spare ops gap (j : Nat), j ≤ i + 40 → Ladder k sides spare ops gap → P (.tup [.list (sides.map .int), .list (spare.map .int), .list (ops.map .int), .int gap]) (.list a [.int j] :: σ)) :
    CALL prog w h₀ (d + 2) (.list a [.int i] :: σ) (.ext (.ref 461)) [.list (ns.map .int), .ref a, .int size] P := by
  refine CALL_fnL (fn__law_ladder X) X.lim rfl [Str.ofString "nums", Str.ofString "at", Str.ofString "size"] [Str.ofString "k", Str.ofString "gap", Str.ofString "sides", Str.ofString "spare", Str.ofString "ops", Str.ofString "r", Str.ofString "op", Str.ofString "q"] _ (gcons (g__law_draw X) (gcons (g_range X) gnil)) rfl (bind__law_ladder _) (by kernel_rfl) ?_
  walk_at "start"
  refine XV_cons (X1_assign ?_ (by with_unfolding_all rfl) (by with_unfolding_all rfl) (by with_unfolding_all rfl))
  refine EV_mono (P := fun m τ => ∃ k : Nat, m = .int k ∧ 3 ≤ k ∧ k ≤ 10 ∧ τ = .list a [.int ((i + 1 : Nat) : Int)] :: σ) ?_ ?_
  · walk_at "w"
    · refine C_draw X h1 h2 (by walk_at "om") (by decide) fun r hr0 hr1 => ?_
      walk_at "w"
      exact ⟨(4 + r).toNat, by congr 1; lia, by lia, by lia, rfl⟩
    · refine C_draw X h1 h2 (by walk_at "om") (by decide) fun r hr0 hr1 => ?_
      walk_at "w"
      exact ⟨(3 + r).toNat, by congr 1; lia, by lia, by lia, rfl⟩
  rintro m τ ⟨k, rfl, hk3, hk10, rfl⟩
  walk_at "w"
  refine C_draw X h1 h2 (by walk_at "om") (by decide) fun dd hd0 hd1 => ?_
  walk_at "w"
  refine EV_list (EVs_nil ⟨by decide, fun S => ?_⟩)
  walk_at "w"
  refine EV_list (EVs_nil ⟨by decide, fun Sp => ?_⟩)
  walk_at "w"
  refine EV_list (EVs_nil ⟨by decide, fun O => ?_⟩)
  walk_at "w"
  refine X1_perm up4 ?_
  refine X1_for (xs := (List.range k).map fun i : Nat => .int i) (fun r ρ τ => ∃ o1 o2, ρ = laL ns a size k (131 - 5 * k - dd) S Sp O o1 o2 none ∧ ∃ sides spare ops, ∃ j : Nat, j ≤ i + 2 + 3 * r ∧
    τ = .list a [.int j] :: .list O (List.map .int ops) :: .list Sp (List.map .int spare) :: .list S (List.map .int sides) :: σ ∧ List.length sides = r ∧ List.length spare = r ∧ List.length ops = r ∧
    (∀ x, x < r → atI sides x = 0 ∨ atI sides x = 1) ∧ (∀ x, x < r → -1 ≤ atI spare x ∧ atI spare x ≤ 3 * x) ∧ (∀ x, x < r → isBrN (atI ops x) = true)) ?_ ?_ ?_ (by intro _; rfl) (by intro _ _; rfl)
  · walk_at "w"
    refine ⟨.rng _ (by walk_at "om") (by walk_at "om"), _, _, rfl, [], [], [], i + 2, by lia, rfl, rfl, rfl, rfl, fun x hx => absurd hx (by walk_at "om"), fun x hx => absurd hx (by walk_at "om"), fun x hx => absurd hx (by walk_at "om")⟩
  · rintro r m ρ τ hm ⟨o1, o2, rfl, sides, spare, ops, j, hj, rfl, l1, l2, l3, f1, f2, f3⟩
    obtain ⟨hr, rfl⟩ := rng_get hm
    walk_at "w"
    walk_at "app"
    refine C_draw X h1 h2 (by walk_at "om") (by decide) fun s hs0 hs1 => ?_
    walk_at "w"
    refine CALL_append (by walk_at "upd") (by rw [List.length_map]; unfold sizeLine; lia) ?_
    walk_at "w"
    refine EV_meth (u := .builtin "list.append") Kp_builtin ?_
    walk_at "w"
    refine ⟨HM_append (by walk_at "mem"), ?_⟩
    refine EVs_cons ?_ (by intro _; with_unfolding_all rfl)
    refine EV_mono (P := fun m τ => ∃ x : Int, m = .int x ∧ -1 ≤ x ∧ x ≤ 3 * r ∧ ∃ j' : Nat, j' ≤ j + 2 ∧ τ = .list a [.int j'] :: .list O (List.map .int ops) :: .list Sp (List.map .int spare) :: .list S (List.map .int sides ++ [.int s]) :: σ) ?_ ?_
    · walk_at "w"
      · refine C_draw X h1 h2 (by walk_at "om") (by decide) fun s hs0 hs1 => ?_
        walk_at "w"
        exact ⟨_, rfl, by lia, by lia, j + 1 + 1, by lia, rfl⟩
      · exact ⟨_, rfl, by lia, by lia, j + 1, by lia, rfl⟩
    rintro m τ ⟨x, rfl, hx0, hx1, j', hj', rfl⟩
    walk_at "w"
    refine CALL_append (by walk_at "upd") (by rw [List.length_map]; unfold sizeLine; lia) ?_
    walk_at "w"
    refine C_draw X h1 h2 (by walk_at "om") (by decide) fun o ho0 ho1 => ?_
    walk_at "w"
    refine EV_meth (u := .builtin "list.append") Kp_builtin ?_
    walk_at "w"
    refine ⟨HM_append (by walk_at "mem"), ?_⟩
    refine EVs_cons ?_ (by intro _; with_unfolding_all rfl)
    refine EV_mono (P := fun m τ => ∃ y : Int, m = .int y ∧ isBrN y = true ∧ τ = .list a [.int ((j' + 1 : Nat) : Int)] :: .list O (List.map .int ops) :: .list Sp (List.map .int spare ++ [.int x]) :: .list S (List.map .int sides ++ [.int s]) :: σ) ?_ ?_
    · walk_at "w"
      · exact ⟨_, rfl, by decide, rfl⟩
      · refine ⟨_, rfl, ?_, rfl⟩
        simp [isBrN]; lia
    rintro m τ ⟨y, rfl, hy, rfl⟩
    walk_at "w"
    refine CALL_append (by walk_at "upd") (by rw [List.length_map]; unfold sizeLine; lia) ?_
    walk_at "w"
    refine ⟨_, _, rfl, sides ++ [s], spare ++ [x], ops ++ [y], j' + 1, by lia, by simp only [List.map_append, List.map_cons, List.map_nil], by simp [l1], by simp [l2], by simp [l3], fun z hz => ?_, fun z hz => ?_, fun z hz => ?_⟩
    · rcases Nat.lt_or_ge z r with q | q
      · rw [atI_snoc (by walk_at "om")]; exact f1 z q
      · have : z = sides.length := by lia
        rw [this, atI_last]; lia
    · rcases Nat.lt_or_ge z r with q | q
      · rw [atI_snoc (by walk_at "om")]; exact f2 z q
      · have : z = spare.length := by lia
        rw [this, atI_last]; lia
    · rcases Nat.lt_or_ge z r with q | q
      · rw [atI_snoc (by walk_at "om")]; exact f3 z q
      · have : z = ops.length := by lia
        rw [this, atI_last]; exact hy
  · rintro ρ τ ⟨o1, o2, rfl, sides, spare, ops, j, hj, rfl, l1, l2, l3, f1, f2, f3⟩
    rw [List.length_map, List.length_range] at hj l1 l2 l3 f1 f2 f3
    walk_at "w"
    refine C_draw X h1 h2 (by walk_at "om") (by walk_at "om") fun q hq0 hq1 => ?_
    walk_at "s"
    walk_at "s"
    refine XV_cons (X1_mono (P := fun fl ρ τ => fl = .next ∧ ρ = laL ns a size k (131 - 5 * k - dd) S Sp O o1 o2 (some (.int q)) ∧ ∃ spare' : List Int, τ = .list a [.int ((j + 1 : Nat) : Int)] :: .list O (List.map .int ops) :: .list Sp (List.map .int spare') :: .list S (List.map .int sides) :: σ ∧
      spare'.length = k ∧ ∀ x, x < k → -1 ≤ atI spare' x ∧ atI spare' x ≤ 3 * x) ?_ ?_)
    · walk_at "w"
      · refine AS_sub ?_
        walk_at "w"
        refine SETI_list (i := q) (m := .int (3 * q)) (.tail (.tail .head)) hq0 (by rw [List.length_map]; lia) ?_
        rw [← List.map_set]
        walk_at "w"
        refine ⟨rfl, rfl, _, rfl, by rw [List.length_set]; exact l2, fun x hx => ?_⟩
        rw [atI_set (by walk_at "om")]
        split
        · lia
        · exact f2 x hx
      · exact ⟨rfl, rfl, spare, rfl, l2, f2⟩
    · rintro fl ρ τ ⟨rfl, rfl, spare', rfl, l2', f2'⟩
      refine Cn_next ?_
      refine XV_freeze (r := .list O (List.map .int ops)) (List.Perm.swap _ _ _) (.list O _) (by walk_at "frz") ?_
      refine XV_freeze (r := .list Sp (List.map .int spare')) (List.Perm.swap _ _ _) (.list Sp _) (by walk_at "frz") ?_
      refine XV_freeze (r := .list S (List.map .int sides)) (List.Perm.swap _ _ _) (.list S _) (by walk_at "frz") ?_
      walk_at "w"
      exact h k sides spare' ops _ (j + 1) (by walk_at "om") ⟨hk3, hk10, l1, l2', l3, f1, f2', f3, by lia⟩
end
section
variable {prog : Program} {w : World} {h₀ : Heap} {d : Nat} {f : FrS} {σ : List Res} {P : MV → List Res → Prop} {xs : List MV} {pos ppos : Pos}
theorem EV_slice_revC {value st : Expr} (h : EV prog w h₀ d f σ value (fun v σ1 => EV prog w h₀ d f σ1 st (fun n σ2 => n = .int (-1) ∧ SL h₀ (.fr f :: σ2) v xs ∧ ∀ D, P (.ref D) (.list D xs.reverse :: σ2)))) :
    EV prog w h₀ d f σ (.Subscript value (.Slice none none (some st) ppos) pos) P := by
  intro A s Φ F E Q vs N R kk
  refine Subscript_ (h A s Φ F E _ [] N .nil ?_)
  rintro x v σ1 Φ1 h1 tk1 le1 rel1 rep1 ⟨τ, rfl, h⟩
  refine wpAny_Slice ?_
  rw [evalPart_none]
  refine wpAny_pure (wpAny_pure ?_)
  rw [evalPart_some]
  refine h A { s with heap := h1, toks := tk1 } Φ1 F E _ [] (N.next le1 rel1) .nil ?_
  rintro y n σ2 Φ2 h2 tk2 le2 rel2 rep2 ⟨τ2, rfl, rfl, hsl, hp⟩
  (first | obtain ⟨_, rfl⟩ := rep2.inv_int | obtain rfl := rep2.inv_ref | obtain rfl := rep2.inv_none | obtain rfl := rep2.inv_bool | cases rep2)
  obtain ⟨l, ws, rfl, hl, hz, rs⟩ := hsl Φ2 F h2 x (fun a o e => le2 a o (le1 a o (N.base a o e))) rel2 (rep1.mono le2)
  refine kba_turn (value' := .Name (Str.ofString "_") ⟨0, 0, 0, 0⟩) (fun _ => rfl) ?_
  refine subscriptTail_builtin (hl.push _).typeIs list_getitem_lookup (wpAny_getItem_list_slice (hl.push _) (Heap.IsSliceOf.new ..) .none .none (.int (-1) _) (by simp) ?_ (by simpa using hz))
  rw [krv_pick]
  show Q (.ref (h2.push _).objs.size) _
  rw [Heap.size_push]
  refine slice_end (s := { s with heap := h2, toks := tk2 }) rel2 (zs := ws.reverse) (by simp; lia) rs.reverse fun D h' rel' => ?_
  exact kk (.ref D) (.ref D) _ Φ2 h' tk2 (le1.trans le2) rel' (.ref D) ⟨_, rfl, hp D⟩
end
/-! the rows of the ladder's code -/
noncomputable abbrev mvN (l : List Nat) : List MV := l.map fun r : Nat => MV.int r
noncomputable def foresN (k : Nat) (sides : List Int) : List Nat := ((List.range k).filter fun r => atI sides r == 0).reverse
noncomputable def backsN (k : Nat) (sides : List Int) : List Nat := (List.range k).filter fun r => atI sides r == 1
structure Parts (k : Nat) (sides spare ops : List Int) (gap : Int) (ahead far mid : List Ins) (fk bk : Nat → Nat) : Prop where
  pa : ∀ x ∈ ahead, Plain x
  pf : ∀ x ∈ far, Plain x
  pm : ∀ x ∈ mid, Plain x ∨ ∃ gs, x = .sw gs ∧ gs.length ≤ 20 ∧ ∀ g ∈ gs, 0 ≤ g ∧ g < ahead.length + k + mid.length + far.length + 1
  sm : sumS mid = gap
  fz : ∀ r ∈ foresN k sides, fk r ≤ far.length ∧ sumS (far.take (fk r)) = goalN sides spare gap r
  bz : ∀ r ∈ backsN k sides, bk r ≤ ahead.length ∧ sumS (ahead.take (bk r)) = goalN sides spare gap r
  sa : sumS ahead ≤ 1000
  sf : sumS far ≤ 1000
noncomputable def codeOf (k : Nat) (sides ops : List Int) (ahead far mid : List Ins) (fk bk : Nat → Nat) : List Ins :=
  ahead.reverse ++ (foresN k sides).map (fun r => .num (atI ops r) (ahead.length + k + mid.length + fk r)) ++ mid ++ (backsN k sides).map (fun r => .num (atI ops r) (ahead.length - bk r)) ++ (far ++ [.num 42 0])
noncomputable def ranksOf (k : Nat) (sides : List Int) (ahead far mid : List Ins) : List Int :=
  List.replicate ahead.length (-1) ++ (foresN k sides).map (fun r : Nat => (r : Int)) ++ List.replicate mid.length (-1) ++ (backsN k sides).map (fun r : Nat => (r : Int)) ++ List.replicate (far.length + 1) (-1)
section
variable {prog : Program} {w : World} {h₀ : Heap} {d : Nat} {σ : List Res} {P : MV → List Res → Prop}
theorem nat_get {l : List Nat} {i : Nat} {m : MV} (h : (mvN l)[i]? = some m) : ∃ r : Nat, l[i]? = some r ∧ m = .int r := map_get h
theorem mvN_take {l : List Nat} {α : Type} {f : Nat → α} {i r : Nat} (h : l[i]? = some r) : (l.take i).map f ++ [f r] = (l.take (i + 1)).map f := by
  rw [List.take_add_one, h, Option.toList_some, List.map_append, List.map_singleton]
theorem C_code (X : X0 w h₀) {ns : List Int} {a : Addr} {i k : Nat} {sides spare ops : List Int} {gap : Int} (h1 : 1 ≤ ns.length) (h2 : ns.length ≤ 1000) (hi : i ≤ 2000) (La : Ladder k sides spare ops gap) (hg : ∀ r, r < k → 0 ≤ goalN sides spare gap r ∧ goalN sides spare gap r ≤ 1000)
    (h : ∀ ahead far mid fk bk (j : Nat), j ≤ i + 40 → Parts k sides spare ops gap ahead far mid fk bk → P (.tup [.list ((codeOf k sides ops ahead far mid fk bk).map Ins.mv), .list ((ranksOf k sides ahead far mid).map .int)]) (.list a [.int j] :: σ)) :
    CALL prog w h₀ (d + 3) (.list a [.int i] :: σ) (.ext (.ref 483)) [.list (ns.map .int), .ref a, .tup [.list (sides.map .int), .list (spare.map .int), .list (ops.map .int), .int gap]] P := by
  have l1 := La.l1
  have l2 := La.l2
  have l3 := La.l3
  have k3 := La.k3
  have k10 := La.k10
  have gp := La.gp
  refine CALL_fnL (fn__law_code X) X.lim rfl [Str.ofString "nums", Str.ofString "at", Str.ofString "ladder"] [Str.ofString "sides", Str.ofString "spare", Str.ofString "ops", Str.ofString "gap", Str.ofString "k", Str.ofString "goals", Str.ofString "fores", Str.ofString "backs", Str.ofString "v", Str.ofString "ahead", Str.ofString "fore_at", Str.ofString "far", Str.ofString "far_at", Str.ofString "w", Str.ofString "rest", Str.ofString "before", Str.ofString "count", Str.ofString "first", Str.ofString "step", Str.ofString "middle", Str.ofString "beyond", Str.ofString "code", Str.ofString "ranks"] _ (gcons (g_len X) (gcons (g_range X) (gcons (g__law_draw X) (gcons (g__law_zone X) (gcons (g_min X) (gcons (g__law_fill X) (gcons (g_tuple X) gnil))))))) rfl (bind__law_code _) (by kernel_rfl) ?_
  walk_at "start"
  iterate 22 walk_at "s"
  rw [l1]
  walk_at "w"
  refine EV_compF (by first | assumption | rfl) (cl := [(Str.ofString "spare", zL + 2), (Str.ofString "sides", zL + 1), (Str.ofString "gap", zL + 4)]) (cap := [(Str.ofString "spare", some (.list (spare.map .int))), (Str.ofString "sides", some (.list (sides.map .int))), (Str.ofString "gap", some (.int gap))]) (γc := [(Str.ofString "_law_goal", .ext (.ref 471))]) (xs := (List.range k).map fun i : Nat => .int i) ?_ (fun j ys τ => ys = (List.range j).map (fun r => MV.int (goalN sides spare gap r)) ∧ τ = .list a [.int (i : Int)] :: σ) ?_ ?_ ?_
  · walk_at "compok"
    exact all_cons ⟨by with_unfolding_all rfl, by with_unfolding_all rfl, g__law_goal X⟩ all_nil
  · walk_at "w"
    exact ⟨.rng _ (by walk_at "om") (by walk_at "om"), by rw [List.length_map, List.length_range]; unfold sizeLine; lia, rfl, rfl⟩
  · rintro C K j m ys τ hm hy ⟨rfl, rfl⟩
    obtain ⟨hj, rfl⟩ := rng_get hm
    refine TSTS_nil ?_
    walk_at "w"
    refine C_goal (d := d + 1) X (by walk_at "om") (by walk_at "om") (by walk_at "om") ?_
    exact ⟨by rw [List.range_succ, List.map_append]; rfl, rfl⟩
  rintro Dg ys τ ⟨rfl, rfl⟩
  rw [show ((List.range k).map fun i : Nat => MV.int i).length = k by rw [List.length_map, List.length_range]]
  walk_at "s"
  walk_at "s"
  refine XV_freeze (.refl _) (.list Dg _) (by walk_at "frz") ?_
  walk_at "s"
  walk_at "s"
  refine EV_slice_revC (xs := ((List.range k).filter fun r => atI sides r == 0).map (fun r : Nat => MV.int r)) ?_
  refine EV_compF (by first | assumption | rfl) (cl := [(Str.ofString "sides", zL + 1)]) (cap := [(Str.ofString "sides", some (.list (sides.map .int)))]) (γc := []) (xs := (List.range k).map fun i : Nat => .int i) ?_ (fun j ys τ => ys = ((List.range j).filter fun r => atI sides r == 0).map (fun r : Nat => MV.int r) ∧ τ = .list a [.int (i : Int)] :: σ) ?_ ?_ ?_
  · walk_at "compok"
    exact all_nil
  · walk_at "w"
    exact ⟨.rng _ (by walk_at "om") (by walk_at "om"), by rw [List.length_map, List.length_range]; unfold sizeLine; lia, rfl, rfl⟩
  · rintro C K j m ys τ hm hy ⟨rfl, rfl⟩
    obtain ⟨hj, rfl⟩ := rng_get hm
    refine TSTS_one ?_
    walk_at "w"
    refine SUB_list .frozen (by walk_at "om") (get_map (k := j) (atI_get (l := sides) (by walk_at "om"))) ?_
    walk_at "w"
    · rename_i hc
      exact ⟨fr_yes (p := fun r => atI sides r == 0) (f := fun r : Nat => MV.int r) (by simpa using hc), rfl⟩
    · rename_i hc
      exact ⟨fr_no (p := fun r => atI sides r == 0) (f := fun r : Nat => MV.int r) (by simpa using hc), rfl⟩
  rintro D1 ys τ ⟨rfl, rfl⟩
  rw [show ((List.range k).map fun i : Nat => MV.int i).length = k by rw [List.length_map, List.length_range]]
  walk_at "w"
  refine ⟨rfl, (IsL.at (by walk_at "mem")).sl, fun D2 => ?_⟩
  rw [← List.map_reverse]
  walk_at "s"
  walk_at "s"
  refine XV_freeze (.refl _) (.list D2 (mvN (foresN k sides))) (by walk_at "frz") ?_
  refine XV_forget ?_
  walk_at "s"
  refine X1_comp (cl := [(Str.ofString "sides", zL + 1)]) (cap := [(Str.ofString "sides", some (.list (sides.map .int)))]) (γc := []) (xs := (List.range k).map fun i : Nat => .int i) ?_ (fun j ys τ => ys = ((List.range j).filter fun r => atI sides r == 1).map (fun r : Nat => MV.int r) ∧ τ = .list a [.int (i : Int)] :: σ) ?_ ?_ ?_ (by with_unfolding_all rfl) (by intro _; rfl)
  · walk_at "compok"
    exact all_nil
  · walk_at "w"
    exact ⟨.rng _ (by walk_at "om") (by walk_at "om"), by rw [List.length_map, List.length_range]; unfold sizeLine; lia, rfl, rfl⟩
  · rintro C K j m ys τ hm hy ⟨rfl, rfl⟩
    obtain ⟨hj, rfl⟩ := rng_get hm
    refine TSTS_one ?_
    walk_at "w"
    refine SUB_list .frozen (by walk_at "om") (get_map (k := j) (atI_get (l := sides) (by walk_at "om"))) ?_
    walk_at "w"
    · rename_i hc
      exact ⟨fr_yes (p := fun r => atI sides r == 1) (f := fun r : Nat => MV.int r) (by simpa using hc), rfl⟩
    · rename_i hc
      exact ⟨fr_no (p := fun r => atI sides r == 1) (f := fun r : Nat => MV.int r) (by simpa using hc), rfl⟩
  rintro D3 ys τ ⟨rfl, rfl⟩
  rw [show ((List.range k).map fun i : Nat => MV.int i).length = k by rw [List.length_map, List.length_range]]
  refine ⟨_, by walk_at "upd", Cn_next ?_⟩
  refine XV_freeze (.refl _) (.list D3 (mvN (backsN k sides))) (by walk_at "frz") ?_
  walk_at "w"
  refine C_draw (d := d + 1) X h1 h2 (by walk_at "om") (by decide) fun v hv0 hv1 => ?_
  walk_at "w"
  have hbl : ∀ r ∈ backsN k sides, r < k := fun r hr => List.mem_range.mp (List.mem_filter.mp hr).1
  have hfl : ∀ r ∈ foresN k sides, r < k := fun r hr => List.mem_range.mp (List.mem_filter.mp (List.mem_reverse.mp hr)).1
  have hbn : (backsN k sides).length ≤ k := by have := List.length_filter_le (fun r => atI sides r == 1) (List.range k); rw [List.length_range] at this; exact this
  have hfn : (foresN k sides).length ≤ k := by have := List.length_filter_le (fun r => atI sides r == 0) (List.range k); rw [List.length_range] at this; rw [foresN, List.length_reverse]; exact this
  have hgl : ∀ r, r < k → ((List.range k).map fun r => MV.int (goalN sides spare gap r))[r]? = some (.int (goalN sides spare gap r)) := fun r hr => by rw [List.getElem?_map, List.getElem?_range hr]; rfl
  refine EV_compF (by first | assumption | rfl) (cl := [(Str.ofString "goals", zL + 5)]) (cap := [(Str.ofString "goals", some (.list ((List.range k).map fun r => MV.int (goalN sides spare gap r))))]) (γc := []) (xs := mvN (backsN k sides)) ?_ (fun j ys τ => ys = ((backsN k sides).take j).map (fun r => MV.int (goalN sides spare gap r)) ∧ τ = .list a [.int ((i + 1 : Nat) : Int)] :: σ) ?_ ?_ ?_
  · walk_at "compok"
    exact all_nil
  · walk_at "w"
    exact ⟨.list _, by rw [List.length_map]; unfold sizeLine; lia, rfl, rfl⟩
  · rintro C K j m ys τ hm hy ⟨rfl, rfl⟩
    obtain ⟨r, hr, rfl⟩ := nat_get hm
    refine TSTS_nil ?_
    walk_at "w"
    refine SUB_list .frozen (by walk_at "om") (hgl r (hbl r (List.mem_of_getElem? hr))) ?_
    exact ⟨mvN_take (f := fun r => MV.int (goalN sides spare gap r)) hr, rfl⟩
  rintro D4 ys τ ⟨rfl, rfl⟩
  rw [show (mvN (backsN k sides)).length = (backsN k sides).length from List.length_map _, List.take_length, show (backsN k sides).map (fun r => MV.int (goalN sides spare gap r)) = ((backsN k sides).map fun r => goalN sides spare gap r).map .int by rw [List.map_map]; rfl]
  walk_at "w"
  refine C_zone (d := d) (ns := (backsN k sides).map fun r => goalN sides spare gap r) X (IsL.at (by walk_at "mem")) (by rw [List.length_map]; lia) (fun n hn => ?_) ⟨hv0, hv1⟩ fun ahead gA pa za sa => ?_
  · obtain ⟨r, hr, rfl⟩ := List.mem_map.mp hn
    exact hg r (hbl r hr)
  refine zk _ _ ?_
  refine AS_tuple ?_ (by with_unfolding_all rfl) (by with_unfolding_all rfl) (by with_unfolding_all rfl)
  refine ASs_cons (AS_name (by walk_at "upd") (ASs_cons (AS_name (by walk_at "upd") (ASs_nil (Cn_next ?_)))))
  refine XV_forget ?_
  walk_at "w"
  refine EV_compF (by first | assumption | rfl) (cl := [(Str.ofString "goals", zL + 5)]) (cap := [(Str.ofString "goals", some (.list ((List.range k).map fun r => MV.int (goalN sides spare gap r))))]) (γc := []) (xs := mvN (foresN k sides)) ?_ (fun j ys τ => ys = ((foresN k sides).take j).map (fun r => MV.int (goalN sides spare gap r)) ∧ τ = .list a [.int ((i + 1 : Nat) : Int)] :: σ) ?_ ?_ ?_
  · walk_at "compok"
    exact all_nil
  · walk_at "w"
    exact ⟨.list _, by rw [List.length_map]; unfold sizeLine; lia, rfl, rfl⟩
  · rintro C K j m ys τ hm hy ⟨rfl, rfl⟩
    obtain ⟨r, hr, rfl⟩ := nat_get hm
    refine TSTS_nil ?_
    walk_at "w"
    refine SUB_list .frozen (by walk_at "om") (hgl r (hfl r (List.mem_of_getElem? hr))) ?_
    exact ⟨mvN_take (f := fun r => MV.int (goalN sides spare gap r)) hr, rfl⟩
  rintro D5 ys τ ⟨rfl, rfl⟩
  rw [show (mvN (foresN k sides)).length = (foresN k sides).length from List.length_map _, List.take_length, show (foresN k sides).map (fun r => MV.int (goalN sides spare gap r)) = ((foresN k sides).map fun r => goalN sides spare gap r).map .int by rw [List.map_map]; rfl]
  walk_at "w"
  refine C_zone (d := d) (ns := (foresN k sides).map fun r => goalN sides spare gap r) X (IsL.at (by walk_at "mem")) (by rw [List.length_map]; lia) (fun n hn => ?_) ⟨hv0, hv1⟩ fun far gF pf zoF sf => ?_
  · obtain ⟨r, hr, rfl⟩ := List.mem_map.mp hn
    exact hg r (hfl r hr)
  refine zk _ _ ?_
  refine AS_tuple ?_ (by with_unfolding_all rfl) (by with_unfolding_all rfl) (by with_unfolding_all rfl)
  refine ASs_cons (AS_name (by walk_at "upd") (ASs_cons (AS_name (by walk_at "upd") (ASs_nil (Cn_next ?_)))))
  refine XV_forget ?_
  walk_at "w"
  refine C_draw (d := d + 1) X h1 h2 (by walk_at "om") (by decide) fun w0 hw0 hw1 => ?_
  walk_at "w"
  refine BIN_div (by decide) (npl (by decide) (by decide)) ?_
  rw [fd (by decide)]
  walk_at "w"
  refine CALL_min ?_
  obtain ⟨wn, hwn, hwn1, hwn2⟩ : ∃ wn : Nat, min w0 ((gap - 5) / 4) = wn ∧ wn ≤ 20 ∧ 4 * (wn : Int) ≤ gap - 5 := ⟨(min w0 ((gap - 5) / 4)).toNat, by lia, by lia, by lia⟩
  rw [hwn]
  walk_at "w"
  refine C_fill (d := d + 1) X (by walk_at "om") (by walk_at "om") ⟨hv0, hv1⟩ fun Dr rest pr sr _ => ?_
  have hrl := len_le_sumS pr
  walk_at "s"
  walk_at "s"
  refine XV_freeze (.refl _) (.list Dr _) (by walk_at "frz") ?_
  walk_at "w"
  refine C_draw (d := d + 1) X h1 h2 (by walk_at "om") (by decide) fun b0 hb0 hb1 => ?_
  walk_at "w"
  refine BIN_mul ?_ (.inl (by walk_at "om"))
  obtain ⟨bn, hbn', hbn2⟩ : ∃ bn : Nat, b0 * (rest.length : Int) = bn ∧ bn ≤ rest.length := by
    have : b0 = 0 ∨ b0 = 1 := by lia
    rcases this with rfl | rfl
    · exact ⟨0, by lia, by lia⟩
    · exact ⟨rest.length, by lia, by lia⟩
  rw [hbn']
  walk_at "s"
  walk_at "s"
  walk_at "s"
  have hal := len_le_sumS pa
  have hflen := len_le_sumS pf
  obtain ⟨cn, hcn⟩ : ∃ cn : Int, (ahead.length : Int) + k + rest.length + 1 + far.length + 1 = cn := ⟨_, rfl⟩
  refine XV_cons (X1_assign (EV_mono (P := fun m τ => m = .int cn ∧ τ = .list a [.int ((i + 1 + 1 + 1 : Nat) : Int)] :: σ) ?_ ?_) (by with_unfolding_all rfl) (by with_unfolding_all rfl) (by with_unfolding_all rfl))
  · walk_at "w"
    exact ⟨congrArg MV.int hcn, rfl⟩
  rintro m τ ⟨rfl, rfl⟩
  walk_at "w"
  refine C_draw (d := d + 1) X h1 h2 (by walk_at "om") (by walk_at "om") fun f0 hf0 hf1 => ?_
  walk_at "w"
  refine C_draw (d := d + 1) X h1 h2 (by walk_at "om") (by walk_at "om") fun s0 hs0 hs1 => ?_
  walk_at "s"
  walk_at "s"
  walk_at "s"
  walk_at "s"
  walk_at "s"
  walk_at "s"
  walk_at "s"
  refine EV_slice_upto (b := bn) (xs := rest.map Ins.mv) ?_
  walk_at "w"
  refine ⟨rfl, IsL.frozen.sl, fun D6 => ?_⟩
  refine EV_listF ?_
  walk_at "w"
  refine EV_compF (by first | assumption | rfl) (cl := [(Str.ofString "step", zL + 11), (Str.ofString "first", zL + 10), (Str.ofString "count", zL + 9)]) (cap := [(Str.ofString "step", some (.int s0)), (Str.ofString "first", some (.int f0)), (Str.ofString "count", some (.int cn))]) (γc := []) (xs := (List.range wn).map fun i : Nat => .int i) ?_ (fun j ys τ => ys = ((List.range j).map fun j : Nat => (f0 + j * s0) % cn).map .int ∧ τ = .list D6 ((rest.map Ins.mv).take bn) :: .list a [.int ((i + 1 + 1 + 1 + 1 + 1 : Nat) : Int)] :: σ) ?_ ?_ ?_
  · walk_at "compok"
    exact all_nil
  · walk_at "w"
    exact ⟨.rng _ (by walk_at "om") (by walk_at "om"), by rw [List.length_map, List.length_range]; unfold sizeLine; lia, rfl, rfl⟩
  · rintro C K j m ys τ hm hy ⟨rfl, rfl⟩
    obtain ⟨hj, rfl⟩ := rng_get hm
    refine TSTS_nil ?_
    walk_at "w"
    refine BIN_mul ?_ (.inl (by walk_at "om"))
    walk_at "w"
    refine BIN_mod (by walk_at "om") ?_
    rw [fm (by walk_at "om")]
    exact ⟨by rw [List.range_succ, List.map_append, List.map_append]; rfl, rfl⟩
  rintro D7 ys τ ⟨rfl, rfl⟩
  rw [show ((List.range wn).map fun i : Nat => MV.int i).length = wn by rw [List.length_map, List.length_range]]
  obtain ⟨gs, hgs⟩ : ∃ gs : List Int, ((List.range wn).map fun j : Nat => (f0 + j * s0) % cn) = gs := ⟨_, rfl⟩
  have hgl2 : gs.length = wn := by rw [← hgs, List.length_map, List.length_range]
  have hgr : ∀ g ∈ gs, 0 ≤ g ∧ g < cn := by
    intro g hg'
    rw [← hgs] at hg'
    obtain ⟨j, _, rfl⟩ := List.mem_map.mp hg'
    exact ⟨Int.emod_nonneg _ (by walk_at "om"), Int.emod_lt_of_pos _ (by walk_at "om")⟩
  rw [hgs]
  walk_at "w"
  refine CALL_tuple (IsL.at (by walk_at "mem")) ?_
  walk_at "w"
  refine BIN_addl (IsL.at (by walk_at "mem")) .frozen (by rw [List.length_take, List.length_map]; show _ + 1 ≤ _; unfold sizeLine; lia) fun D8 => ?_
  refine EV_slice_from (b := bn) (xs := rest.map Ins.mv) ?_
  walk_at "w"
  refine ⟨rfl, IsL.frozen.sl, fun D9 => ?_⟩
  refine BIN_addl (IsL.at (by walk_at "mem")) (IsL.at (by walk_at "mem")) (by rw [List.length_append, List.length_take, List.length_drop, List.length_map]; show _ + 1 + _ ≤ _; unfold sizeLine; lia) fun D10 => ?_
  walk_at "s"
  walk_at "s"
  obtain ⟨mid, hmid⟩ : ∃ mid : List Ins, rest.take bn ++ [.sw gs] ++ rest.drop bn = mid := ⟨_, rfl⟩
  have hm1 : ((rest.map Ins.mv).take bn ++ [MV.tup [.int 69, .tup (gs.map .int)]] ++ (rest.map Ins.mv).drop bn) = mid.map Ins.mv := by
    rw [← hmid, List.map_append, List.map_append, List.map_take, List.map_drop]; rfl
  have hml : mid.length = rest.length + 1 := by rw [← hmid]; simp; lia
  have hmp : ∀ x ∈ mid, Plain x ∨ x = .sw gs := by
    intro x hx
    rw [← hmid] at hx
    rcases List.mem_append.mp hx with hx | hx
    · rcases List.mem_append.mp hx with hx | hx
      · exact .inl (pr x (List.mem_of_mem_take hx))
      · exact .inr (List.mem_singleton.mp hx)
    · exact .inl (pr x (List.mem_of_mem_drop hx))
  have hms : sumS mid = gap := by
    have e1 : sumS (rest.take bn) + sumS (rest.drop bn) = sumS rest := by rw [← sumS_append, List.take_append_drop]
    rw [← hmid, sumS_append, sumS_append, sumS_one, sizeL_len (b := false) (Ins.Ok.sw (c := cn) gs (by walk_at "om") hgr) (fun _ => 0) 0, rowB_sw, List.length_cons, List.length_append, le_length, flat_len]
    lia
  rw [hm1]
  refine XV_freeze (.refl _) (.list D10 _) (by walk_at "frz") ?_
  refine XV_forget (XV_forget (XV_forget (XV_forget ?_)))
  have hPm : ∀ x ∈ mid, Plain x ∨ ∃ gs, x = .sw gs ∧ gs.length ≤ 20 ∧ ∀ g ∈ gs, 0 ≤ g ∧ g < ahead.length + k + mid.length + far.length + 1 := fun x hx => (hmp x hx).imp id fun q => ⟨gs, q, by lia, fun g hg' => by have := hgr g hg'; lia⟩
  have lA : ahead.length ≤ 1000 := by lia
  have lF : far.length ≤ 1000 := by lia
  have lM : mid.length ≤ 1001 := by lia
  have lB : (backsN k sides).length ≤ 10 := by lia
  have lR : (foresN k sides).length ≤ 10 := by lia
  clear hm1 hgs hmid hmp hml hgr hgl2 hal hflen hwn hwn1 hwn2 hw0 hw1 sr hrl hb0 hb1 hbn' hbn2 hf0 hf1 hs0 hs1 gp h1 h2 hi hv0 hv1 hcn hbn hfn k3 k10 l1 l2
  obtain ⟨fk, hfk⟩ : ∃ fk : Nat → Nat, ∀ r, r ∈ foresN k sides → gF (goalN sides spare gap r) = some (.int (fk r)) ∧ fk r ≤ far.length ∧ sumS (far.take (fk r)) = goalN sides spare gap r := by
    refine Classical.axiomOfChoice (r := fun (r : Nat) (n : Nat) => r ∈ foresN k sides → gF (goalN sides spare gap r) = some (.int n) ∧ n ≤ far.length ∧ sumS (far.take n) = goalN sides spare gap r) fun r => ?_
    by_cases hr : r ∈ foresN k sides
    · obtain ⟨n, q⟩ := zoF _ (List.mem_map.mpr ⟨r, hr, rfl⟩)
      exact ⟨n, fun _ => q⟩
    · exact ⟨0, fun h => absurd h hr⟩
  obtain ⟨bk, hbk⟩ : ∃ bk : Nat → Nat, ∀ r, r ∈ backsN k sides → gA (goalN sides spare gap r) = some (.int (bk r)) ∧ bk r ≤ ahead.length ∧ sumS (ahead.take (bk r)) = goalN sides spare gap r := by
    refine Classical.axiomOfChoice (r := fun (r : Nat) (n : Nat) => r ∈ backsN k sides → gA (goalN sides spare gap r) = some (.int n) ∧ n ≤ ahead.length ∧ sumS (ahead.take n) = goalN sides spare gap r) fun r => ?_
    by_cases hr : r ∈ backsN k sides
    · obtain ⟨n, q⟩ := za _ (List.mem_map.mpr ⟨r, hr, rfl⟩)
      exact ⟨n, fun _ => q⟩
    · exact ⟨0, fun h => absurd h hr⟩
  refine XV_cons (X1_assign (EV_mono (P := fun m τ => m = .int ((ahead.length : Int) + k + mid.length) ∧ τ = .list a [.int ((i + 1 + 1 + 1 + 1 + 1 : Nat) : Int)] :: σ) ?_ ?_) (by with_unfolding_all rfl) (by with_unfolding_all rfl) (by with_unfolding_all rfl))
  · walk_at "w"
    exact ⟨rfl, rfl⟩
  rintro m τ ⟨rfl, rfl⟩
  walk_at "s"
  walk_at "s"
  walk_at "s"
  walk_at "s"
  refine EV_slice_revC (xs := ahead.map Ins.mv) ?_
  walk_at "w"
  refine ⟨rfl, IsL.frozen.sl, fun Dc => ?_⟩
  rw [← List.map_reverse]
  walk_at "w"
  refine EV_compF (by first | assumption | rfl) (cl := [(Str.ofString "ops", zL + 3), (Str.ofString "goals", zL + 5), (Str.ofString "far_at", zL + 8), (Str.ofString "beyond", zL + 12)]) (cap := [(Str.ofString "ops", some (.list (ops.map .int))), (Str.ofString "goals", some (.list ((List.range k).map fun r => MV.int (goalN sides spare gap r)))), (Str.ofString "far_at", some (.imap gF)), (Str.ofString "beyond", some (.int ((ahead.length : Int) + k + mid.length)))]) (γc := []) (xs := mvN (foresN k sides)) ?_ (fun j ys τ => ys = ((foresN k sides).take j).map (fun r => (Ins.num (atI ops r) ((ahead.length : Int) + k + mid.length + fk r)).mv) ∧ τ = .list Dc (ahead.reverse.map Ins.mv) :: .list a [.int ((i + 1 + 1 + 1 + 1 + 1 : Nat) : Int)] :: σ) ?_ ?_ ?_
  · walk_at "compok"
    exact all_nil
  · walk_at "w"
    exact ⟨.list _, by rw [List.length_map]; unfold sizeLine; lia, rfl, rfl⟩
  · rintro C K j m ys τ hm hy ⟨rfl, rfl⟩
    obtain ⟨r, hr, rfl⟩ := nat_get hm
    have hrm := List.mem_of_getElem? hr
    have hrk := hfl r hrm
    refine TSTS_nil ?_
    walk_at "w"
    refine SUB_list .frozen (by walk_at "om") (get_map (k := r) (atI_get (l := ops) (by walk_at "om"))) ?_
    walk_at "w"
    refine SUB_list .frozen (by walk_at "om") (hgl r hrk) ?_
    refine SUB_map (.inl rfl) (hfk r hrm).1 ?_
    walk_at "w"
    exact ⟨mvN_take (f := fun r => (Ins.num (atI ops r) ((ahead.length : Int) + k + mid.length + fk r)).mv) hr, rfl⟩
  rintro D11 ys τ ⟨rfl, rfl⟩
  rw [show (mvN (foresN k sides)).length = (foresN k sides).length from List.length_map _, List.take_length, show (foresN k sides).map (fun r => (Ins.num (atI ops r) ((ahead.length : Int) + k + mid.length + fk r)).mv) = ((foresN k sides).map fun r => Ins.num (atI ops r) ((ahead.length : Int) + k + mid.length + fk r)).map Ins.mv by rw [List.map_map]; rfl]
  refine zk _ _ ?_
  refine INP_addl (xs := ahead.reverse.map Ins.mv) (.tail .head) (IsL.at (by walk_at "mem")) (by rw [List.length_map, List.length_map, List.length_map, List.length_reverse]; unfold sizeLine; lia) ?_
  rw [← List.map_append]
  walk_at "s"
  walk_at "s"
  refine XV_forget ?_
  walk_at "w"
  refine INP_addl (ys := mid.map Ins.mv) .head .frozen (by rw [List.length_map, List.length_map, List.length_append, List.length_map, List.length_reverse]; unfold sizeLine; lia) ?_
  rw [← List.map_append]
  walk_at "w"
  refine EV_compF (by first | assumption | rfl) (cl := [(Str.ofString "ops", zL + 3), (Str.ofString "goals", zL + 5), (Str.ofString "fore_at", zL + 7), (Str.ofString "ahead", zL + 6)]) (cap := [(Str.ofString "ops", some (.list (ops.map .int))), (Str.ofString "goals", some (.list ((List.range k).map fun r => MV.int (goalN sides spare gap r)))), (Str.ofString "fore_at", some (.imap gA)), (Str.ofString "ahead", some (.list (ahead.map Ins.mv)))]) (γc := [(Str.ofString "len", .ext (.builtin "len"))]) (xs := mvN (backsN k sides)) ?_ (fun j ys τ => ys = ((backsN k sides).take j).map (fun r => (Ins.num (atI ops r) ((ahead.length : Int) - bk r)).mv) ∧ τ = .list Dc ((ahead.reverse ++ (foresN k sides).map (fun r => Ins.num (atI ops r) ((ahead.length : Int) + k + mid.length + fk r)) ++ mid).map Ins.mv) :: .list a [.int ((i + 1 + 1 + 1 + 1 + 1 : Nat) : Int)] :: σ) ?_ ?_ ?_
  · walk_at "compok"
    exact all_cons ⟨by with_unfolding_all rfl, by with_unfolding_all rfl, g_len X⟩ all_nil
  · walk_at "w"
    exact ⟨.list _, by rw [List.length_map]; unfold sizeLine; lia, rfl, rfl⟩
  · rintro C K j m ys τ hm hy ⟨rfl, rfl⟩
    obtain ⟨r, hr, rfl⟩ := nat_get hm
    have hrm := List.mem_of_getElem? hr
    have hrk := hbl r hrm
    refine TSTS_nil ?_
    walk_at "w"
    refine SUB_list .frozen (by walk_at "om") (get_map (k := r) (atI_get (l := ops) (by walk_at "om"))) ?_
    walk_at "w"
    refine SUB_list .frozen (by walk_at "om") (hgl r hrk) ?_
    refine SUB_map (.inl rfl) (hbk r hrm).1 ?_
    walk_at "w"
    exact ⟨mvN_take (f := fun r => (Ins.num (atI ops r) ((ahead.length : Int) - bk r)).mv) hr, rfl⟩
  rintro D12 ys τ ⟨rfl, rfl⟩
  rw [show (mvN (backsN k sides)).length = (backsN k sides).length from List.length_map _, List.take_length, show (backsN k sides).map (fun r => (Ins.num (atI ops r) ((ahead.length : Int) - bk r)).mv) = ((backsN k sides).map fun r => Ins.num (atI ops r) ((ahead.length : Int) - bk r)).map Ins.mv by rw [List.map_map]; rfl]
  refine zk _ _ ?_
  refine INP_addl (.tail .head) (IsL.at (by walk_at "mem")) (by simp only [List.length_map, List.length_append, List.length_reverse]; unfold sizeLine; lia) ?_
  rw [← List.map_append]
  walk_at "s"
  walk_at "s"
  refine XV_forget ?_
  walk_at "w"
  refine EV_listF ?_
  walk_at "w"
  refine BIN_addl (xs := far.map Ins.mv) .frozen .frozen (by rw [List.length_map]; show _ + 1 ≤ _; unfold sizeLine; lia) fun D13 => ?_
  rw [show far.map Ins.mv ++ [MV.tup [.int 42, .int 0]] = (far ++ [Ins.num 42 0]).map Ins.mv by rw [List.map_append]; rfl]
  refine zk _ _ ?_
  refine INP_addl (.tail .head) (IsL.at (by walk_at "mem")) (by simp only [List.length_map, List.length_append, List.length_reverse, List.length_cons, List.length_nil]; unfold sizeLine; lia) ?_
  rw [← List.map_append]
  walk_at "s"
  walk_at "s"
  refine XV_forget ?_
  change XV _ _ _ _ _ _ _ (.list Dc ((codeOf k sides ops ahead far mid fk bk).map Ins.mv) :: _) _ _
  walk_at "w"
  refine EV_listF ?_
  walk_at "w"
  refine BIN_mull .frozen (by lia) fun D14 => ?_
  walk_at "w"
  refine BIN_addl (IsL.at (by walk_at "mem")) .frozen (by simp only [List.length_map, List.length_replicate]; unfold sizeLine; lia) fun D15 => ?_
  refine EV_binop (EV_listF ?_)
  walk_at "w"
  refine BIN_mull .frozen (by lia) fun D16 => ?_
  refine BIN_addl (IsL.at (by walk_at "mem")) (IsL.at (by walk_at "mem")) (by simp only [List.length_map, List.length_replicate, List.length_append]; unfold sizeLine; lia) fun D17 => ?_
  walk_at "w"
  refine BIN_addl (IsL.at (by walk_at "mem")) .frozen (by simp only [List.length_map, List.length_replicate, List.length_append]; unfold sizeLine; lia) fun D18 => ?_
  refine EV_binop (EV_listF ?_)
  walk_at "w"
  refine BIN_mull .frozen (by lia) fun D19 => ?_
  refine BIN_addl (IsL.at (by walk_at "mem")) (IsL.at (by walk_at "mem")) (by simp only [List.length_map, List.length_replicate, List.length_append]; unfold sizeLine; lia) fun D20 => ?_
  walk_at "s"
  walk_at "s"
  refine XV_freeze (.refl _) (.list D20 _) (by walk_at "frz") ?_
  refine XV_forget (XV_forget (XV_forget (XV_forget (XV_forget (XV_forget ?_)))))
  refine XV_freeze (.refl _) (.list Dc _) (by walk_at "frz") ?_
  walk_at "w"
  have hP : Parts k sides spare ops gap ahead far mid fk bk := ⟨pa, pf, hPm, hms, fun r hr => (hfk r hr).2, fun r hr => (hbk r hr).2, sa, sf⟩
  have := h ahead far mid fk bk (i + 1 + 1 + 1 + 1 + 1) (by walk_at "om") hP
  simp only [ranksOf, List.map_append, List.map_replicate, List.map_map, Function.comp_def] at this
  simp only [Int.toNat_natCast]
  exact this
end
theorem sizeL_br {op n : Int} {b : Bool} {c : Int} (ok : (Ins.num op n).Ok c) (h : isBrN op = true) : sizeL (.num op n) b = 2 + 3 * (if b = true then 1 else 0) := by
  rw [sizeL_len ok (fun _ => 0) 0]
  cases b with
  | false => rw [rowB_brs h, List.length_cons, le_length]; rfl
  | true => rw [rowB_brl h, List.length_cons, le_length]; rfl
theorem sizeL_sw {gs : List Int} {b : Bool} {c : Int} (ok : (Ins.sw gs).Ok c) : sizeL (.sw gs) b = 5 + 4 * gs.length := by
  rw [sizeL_len ok (fun _ => 0) 0, rowB_sw, List.length_cons, List.length_append, le_length, flat_len]; lia
theorem Ins.Ok.brn {op n c : Int} (ok : (Ins.num op n).Ok c) (h : isBrN op = true) : 0 ≤ n ∧ n < c := by
  cases ok with
  | none op e => rcases e with rfl | rfl <;> simp [isBrN] at h
  | i8 => simp [isBrN] at h
  | i4 => simp [isBrN] at h
  | loc => simp [isBrN] at h
  | br op n _ h0 h1 => exact ⟨h0, h1⟩
structure LayIn (cs : List Ins) (rk lg : List Int) (L : List Bool) : Prop where
  ok : ∀ x ∈ cs, x.Ok cs.length
  len : L.length = cs.length
  rn : ∀ (i : Nat) x, cs[i]? = some x → ∃ rv, rk[i]? = some rv ∧ (x.br = true → 0 ≤ rv ∧ ∃ lv, lg[rv.toNat]? = some lv ∧ ((lv = 0 ∧ L[i]? = some false) ∨ (lv = 1 ∧ L[i]? = some true))) ∧ (x.br = false → rv < 0)
section
variable {prog : Program} {w : World} {h₀ : Heap} {d : Nat} {σ : List Res} {P : MV → List Res → Prop}
noncomputable abbrev lyL (cs : List Ins) (rk : List Int) (u v : MV) (o1 o2 o3 o4 o5 o6 o7 : Option MV) : Loc := [(Str.ofString "code", some (.list (cs.map Ins.mv))), (Str.ofString "ranks", some (.list (rk.map .int))), (Str.ofString "longs", some u), (Str.ofString "offsets", some v), (Str.ofString "i", o1), (Str.ofString "op", o2), (Str.ofString "n", o3), (Str.ofString "size", o4), (Str.ofString "octets", o5), (Str.ofString "end", o6), (Str.ofString "goal", o7)]
theorem C_lay (X : X0 w h₀) {cs : List Ins} {rk lg : List Int} {L : List Bool} {u : MV} (I : IsL σ u (lg.map .int)) (hz : cs.length ≤ 10000) (H : LayIn cs rk lg L) (hB : (encTo cs L cs.length).length ≤ 50000)
    (h : P (.tup [.bytes (byteArr (encTo cs L cs.length)), .list ((offs cs L).map .int)]) σ) :
    CALL prog w h₀ (d + 3) σ (.ext (.ref 497)) [.list (cs.map Ins.mv), .list (rk.map .int), u] P := by
  have ok := H.ok
  have ho : ∀ i, i ≤ cs.length → (offs cs L)[i]? = some (offAt cs L i) := fun i hi => offs_get H.len hi
  refine CALL_forget ?_
  refine CALL_fnL (fn__law_lay X) X.lim rfl [Str.ofString "code", Str.ofString "ranks", Str.ofString "longs"] [Str.ofString "offsets", Str.ofString "i", Str.ofString "op", Str.ofString "n", Str.ofString "size", Str.ofString "octets", Str.ofString "end", Str.ofString "goal"] _ (gcons (g_range X) (gcons (g_len X) (gcons (g__law_plain X) (gcons (g__law_little X) (gcons (g_bytes X) gnil))))) rfl (bind__law_lay _) (by kernel_rfl) ?_
  walk_at "start"
  walk_at "w"
  refine EV_list ?_
  walk_at "w"
  intro Of
  walk_at "w"
  refine X1_for (xs := (List.range cs.length).map fun i : Nat => .int i) (fun i ρ τ => ∃ o1 o2 o3 o4, ρ = lyL cs rk u (.ref Of) o1 o2 o3 o4 none none none ∧ τ = .list Of (((offs cs L).take (i + 1)).map .int) :: σ) ?_ ?_ ?_
  · walk_at "w"
    refine ⟨.rng _ (by walk_at "om") (by walk_at "om"), _, _, _, _, rfl, ?_⟩
    rw [List.take_add_one, List.take_zero, ho 0 (by walk_at "om"), offAt_zero]; rfl
  · rintro i m ρ τ hm ⟨o1, o2, o3, o4, rfl, rfl⟩
    obtain ⟨hi, rfl⟩ := rng_get hm
    obtain ⟨x, hx, okx⟩ := ok_at ok hi
    obtain ⟨b0, hb0⟩ := bool_at (L := L) (i := i) (by rw [H.len]; exact hi)
    obtain ⟨rv, hrv, hbr, hnb⟩ := H.rn i x hx
    walk_at "w"
    refine SUB_list .frozen (by walk_at "om") (get_ins hx) ?_
    cases x with
    | sw gs =>
      rw [Ins.mv]
      walk_at "w"
      refine SUB_list .frozen (by walk_at "om") (get_map (k := i) hrv) ?_
      have hneg := hnb rfl
      walk_at "w"
      walk_at "app"
      rw [List.take_add_one, ho i (by walk_at "om"), Option.toList_some, List.map_append, List.map_singleton]
      refine SUB_last (xs := ((offs cs L).take i).map .int) (m := .int (offAt cs L i)) (IsL.at (by walk_at "mem")) ?_
      walk_at "w"
      refine CALL_append (by walk_at "upd") (by simp only [List.length_append, List.length_map, List.length_take, List.length_cons, List.length_nil]; unfold sizeLine; lia) ?_
      walk_at "w"
      refine ⟨_, _, _, _, rfl, ?_⟩
      have e := ho (i + 1) (by walk_at "om")
      rw [List.take_add_one (i := i + 1), e, Option.toList_some, List.take_add_one, ho i (by walk_at "om"), Option.toList_some, List.map_append, List.map_append, offAt_succ hx hb0, sizeL_sw okx, List.length_map]
      rfl
    | num op n =>
      change (isBrN op = true → _) at hbr
      change (isBrN op = false → _) at hnb
      rw [Ins.mv]
      refine zk _ _ ?_
      refine AS_tuple ?_ (by with_unfolding_all rfl) (by with_unfolding_all rfl) (by with_unfolding_all rfl)
      refine ASs_cons (AS_name (by walk_at "upd") (ASs_cons (AS_name (by walk_at "upd") (ASs_nil (Cn_next ?_)))))
      refine XV_cons (X1_mono (P := fun fl ρ τ => fl = .next ∧ ρ = lyL cs rk u (.ref Of) (some (.int i)) (some (.int op)) (some (.int n)) (some (.int (sizeL (.num op n) b0))) none none none ∧ τ = .list Of (((offs cs L).take (i + 1)).map .int) :: σ) ?_ ?_)
      · walk_at "w"
        refine SUB_list .frozen (by walk_at "om") (get_map (k := i) hrv) ?_
        cases hb : isBrN op with
        | true =>
          obtain ⟨hr0, lv, hlv, hl⟩ := hbr hb
          walk_at "w"
          refine SUB_list .frozen (by walk_at "om") (get_map (k := i) hrv) ?_
          refine SUB_list I.cons hr0 (get_map hlv) ?_
          walk_at "w"
          rw [sizeL_br okx hb]
          rcases hl with ⟨rfl, hl⟩ | ⟨rfl, hl⟩ <;> (rw [hb0] at hl; cases hl; exact ⟨rfl, rfl, rfl⟩)
        | false =>
          have hneg := hnb hb
          have hop := okx.ok
          change op ≠ 69 at hop
          walk_at "w"
          refine C_plain (b := b0) (O := fun _ => 0) (e := 0) X okx hb fun D => ?_
          walk_at "s"
          walk_at "s"
          rw [← sizeL_len okx]
          walk_at "s"
          walk_at "s"
          walk_at "s"
          refine XV_forget (XV_nil (Cn_next (XV_nil ?_)))
          exact ⟨rfl, rfl, rfl⟩
      rintro fl ρ τ ⟨rfl, rfl, rfl⟩
      refine Cn_next ?_
      walk_at "w"
      walk_at "app"
      rw [List.take_add_one, ho i (by walk_at "om"), Option.toList_some, List.map_append, List.map_singleton]
      refine SUB_last (xs := ((offs cs L).take i).map .int) (m := .int (offAt cs L i)) (IsL.at (by walk_at "mem")) ?_
      walk_at "w"
      refine CALL_append (by walk_at "upd") (by simp only [List.length_append, List.length_map, List.length_take, List.length_cons, List.length_nil]; unfold sizeLine; lia) ?_
      walk_at "w"
      refine ⟨_, _, _, _, rfl, ?_⟩
      have e := ho (i + 1) (by walk_at "om")
      rw [List.take_add_one (i := i + 1), e, Option.toList_some, List.take_add_one, ho i (by walk_at "om"), Option.toList_some, List.map_append, List.map_append, offAt_succ hx hb0]
      rfl
  · rintro ρ τ ⟨o1, o2, o3, o4, rfl, rfl⟩
    rw [List.length_map, List.length_range, List.take_of_length_le (l := offs cs L) (by rw [offs_length H.len]; lia)]
    refine Cn_next ?_
    refine XV_freeze (.refl _) (.list Of _) (by walk_at "frz") ?_
    walk_at "w"
    refine EV_list (EVs_nil ⟨by decide, fun Oc => ?_⟩)
    walk_at "w"
    refine X1_for (xs := (List.range cs.length).map fun i : Nat => .int i) (fun i ρ τ => ∃ o1 o2 o3 o4 o6 o7, ρ = lyL cs rk u (.list ((offs cs L).map .int)) o1 o2 o3 o4 (some (.ref Oc)) o6 o7 ∧ τ = .list Oc ((encTo cs L i).map .int) :: σ) ?_ ?_ ?_
    · walk_at "w"
      exact ⟨.rng _ (by walk_at "om") (by walk_at "om"), _, _, _, _, _, _, rfl, rfl⟩
    · rintro i m ρ τ hm ⟨o1, o2, o3, o4, o6, o7, rfl, rfl⟩
      obtain ⟨hi, rfl⟩ := rng_get hm
      obtain ⟨x, hx, okx⟩ := ok_at ok hi
      obtain ⟨b0, hb0⟩ := bool_at (L := L) (i := i) (by rw [H.len]; exact hi)
      obtain ⟨rv, hrv, hbr, hnb⟩ := H.rn i x hx
      have he := ho (i + 1) (by walk_at "om")
      have hrow : rowAt cs L i = rowB x b0 (offAt cs L) (offAt cs L (i + 1)) := by rw [rowAt, hx, hb0]
      have hlen := encTo_mono cs L (i := i + 1) (n := cs.length) (by walk_at "om")
      rw [encTo_succ, List.length_append, hrow] at hlen
      have fin : ∀ {o1 o2 o3 o4 o6 o7}, ∃ p1 p2 p3 p4 p6 p7, lyL cs rk u (.list ((offs cs L).map .int)) o1 o2 o3 o4 (some (.ref Oc)) o6 o7 = lyL cs rk u (.list ((offs cs L).map .int)) p1 p2 p3 p4 (some (.ref Oc)) p6 p7 ∧
          Res.list Oc ((encTo cs L i).map .int ++ (rowB x b0 (offAt cs L) (offAt cs L (i + 1))).map .int) :: σ = Res.list Oc ((encTo cs L (i + 1)).map .int) :: σ := fun {_ _ _ _ _ _} => ⟨_, _, _, _, _, _, rfl, by rw [encTo_succ, hrow, List.map_append]⟩
      walk_at "w"
      refine SUB_list .frozen (by walk_at "om") (get_ins hx) ?_
      cases x with
      | sw gs =>
        have hneg := hnb rfl
        cases okx with | sw _ hgl hgr => ?_
        rw [Ins.mv]
        walk_at "w"
        refine SUB_list .frozen (by walk_at "om") (get_map (k := i + 1) he) ?_
        walk_at "w"
        refine SUB_list .frozen (by walk_at "om") (get_map (k := i) hrv) ?_
        walk_at "w"
        refine SUB_list .frozen (by walk_at "om") (get_map (k := i) hrv) ?_
        walk_at "w"
        refine EV_listF ?_
        walk_at "w"
        rw [List.length_map]
        refine C_little (wd := 4) X (by walk_at "om") fun D1 => ?_
        refine BIN_addl .frozen (IsL.at (by walk_at "mem")) (by rw [List.length_map, le_length]; show 1 + 4 ≤ sizeLine; decide) fun D2 => ?_
        refine zk _ _ ?_
        refine INP_addl (xs := (encTo cs L i).map .int) (.tail (.tail .head)) (IsL.at (by walk_at "mem")) (by rw [List.length_append, List.length_map, List.length_map, le_length]; show _ + (1 + 4) ≤ _; unfold sizeLine; lia) ?_
        walk_at "s"
        walk_at "s"
        refine XV_forget (XV_forget ?_)
        rw [rowB_sw, List.length_cons, List.length_append, le_length, flat_len] at hlen
        refine XV_cons ?_
        refine X1_for (xs := gs.map .int) (fun j ρ τ => ∃ o7, ρ = lyL cs rk u (.list ((offs cs L).map .int)) (some (.int i)) (some (.int 69)) (some (.tup (gs.map .int))) o4 (some (.ref Oc)) (some (.int (offAt cs L (i + 1)))) o7 ∧ τ = .list Oc ((encTo cs L i ++ (69 :: (le gs.length 4 ++ (gs.take j).flatMap fun g => le (offAt cs L g.toNat - offAt cs L (i + 1)) 4))).map .int) :: σ) ?_ ?_ ?_
        · walk_at "w"
          refine ⟨.tup _, _, rfl, ?_⟩
          rw [List.take_zero, List.flatMap_nil, List.append_nil, List.map_append, List.map_cons]; rfl
        · rintro j m ρ τ hm ⟨o7, rfl, rfl⟩
          obtain ⟨g, hgj, rfl⟩ := map_get hm
          have hg := hgr g (List.mem_of_getElem? hgj)
          have htl : (gs.take j).length ≤ gs.length := by rw [List.length_take]; lia
          walk_at "w"
          refine SUB_list .frozen hg.1 (get_map (ho g.toNat (by walk_at "om"))) ?_
          walk_at "w"
          refine C_little (wd := 4) X (by walk_at "om") fun D1 => ?_
          refine zk _ _ ?_
          refine INP_addl (.tail .head) (IsL.at (by walk_at "mem")) (by simp only [List.length_map, List.length_append, List.length_cons, le_length, flat_len]; unfold sizeLine; lia) ?_
          walk_at "s"
          walk_at "s"
          refine XV_forget ?_
          walk_at "w"
          refine ⟨_, rfl, ?_⟩
          rw [List.take_add_one, hgj, Option.toList_some, List.flatMap_append, List.flatMap_singleton, ← List.map_append]
          simp only [List.append_assoc, List.cons_append]
        · rintro ρ τ ⟨o7, rfl, rfl⟩
          rw [List.length_map, List.take_length]
          walk_at "w"
          refine ⟨_, _, _, _, _, _, rfl, ?_⟩
          rw [encTo_succ, hrow]; rfl
      | num op n =>
        change (isBrN op = true → _) at hbr
        change (isBrN op = false → _) at hnb
        rw [Ins.mv]
        walk_at "w"
        refine SUB_list .frozen (by walk_at "om") (get_map (k := i + 1) he) ?_
        walk_at "w"
        refine SUB_list .frozen (by walk_at "om") (get_map (k := i) hrv) ?_
        cases hb : isBrN op with
        | true =>
          have hn := okx.brn hb
          obtain ⟨hr0, lv, hlv, hl⟩ := hbr hb
          walk_at "w"
          refine TE_value (EV_sub ?_) (by intros; with_unfolding_all rfl)
          walk_at "w"
          refine SUB_list .frozen (by walk_at "om") (get_map (k := i) hrv) ?_
          refine SUB_list I.cons hr0 (get_map hlv) ?_
          rcases hl with ⟨rfl, hl⟩ | ⟨rfl, hl⟩
          · rw [hb0] at hl; cases hl
            walk_at "w"
            refine SUB_list .frozen (by walk_at "om") (get_map (k := i) hrv) ?_
            walk_at "w"
            refine EV_listF ?_
            refine EVs_cons (EV_mono (P := fun m τ' => m = .int (jumpOctet op) ∧ τ' = .list Oc ((encTo cs L i).map .int) :: σ) ?_ ?_) (by intro _; with_unfolding_all rfl)
            · walk_at "w"
              · rename_i hc; exact ⟨by rw [jumpOctet, if_pos hc], rfl⟩
              · rename_i hc; exact ⟨by rw [jumpOctet, if_neg hc]; congr 1; lia, rfl⟩
            rintro m τ ⟨rfl, rfl⟩
            walk_at "w"
            refine SUB_list .frozen hn.1 (get_map (ho n.toNat (by walk_at "om"))) ?_
            walk_at "w"
            refine BIN_mod (by decide) ?_
            rw [fm (by decide)]
            walk_at "w"
            have e1 : [MV.int (jumpOctet op), MV.int ((offAt cs L n.toNat - offAt cs L (i + 1)) % 256)] = (rowB (.num op n) false (offAt cs L) (offAt cs L (i + 1))).map .int := by
              rw [rowB_brs hb, show ∀ v : Int, le v 1 = [v / 256 ^ 0 % 256] from fun _ => rfl, show ∀ v : Int, v / 256 ^ 0 = v by intro v; simp]; rfl
            rw [e1]
            refine INP_addl .head .frozen (by rw [List.length_map, List.length_map]; unfold sizeLine; lia) ?_
            walk_at "w"
            exact fin
          · rw [hb0] at hl; cases hl
            walk_at "w"
            refine EV_listF ?_
            walk_at "w"
            refine SUB_list .frozen hn.1 (get_map (ho n.toNat (by walk_at "om"))) ?_
            walk_at "w"
            refine C_little (wd := 4) X (by walk_at "om") fun D1 => ?_
            refine BIN_addl .frozen (IsL.at (by walk_at "mem")) (by rw [List.length_map, le_length]; show 1 + 4 ≤ sizeLine; decide) fun D2 => ?_
            rw [show [MV.int op] ++ (le (offAt cs L n.toNat - offAt cs L (i + 1)) 4).map MV.int = (rowB (.num op n) true (offAt cs L) (offAt cs L (i + 1))).map .int by rw [rowB_brl hb]; rfl]
            refine zk _ _ ?_
            refine INP_addl (.tail (.tail .head)) (IsL.at (by walk_at "mem")) (by rw [List.length_map, List.length_map]; unfold sizeLine; lia) ?_
            walk_at "s"
            walk_at "s"
            refine XV_forget (XV_forget ?_)
            walk_at "w"
            exact fin
        | false =>
          have hneg := hnb hb
          have hop := okx.ok
          change op ≠ 69 at hop
          walk_at "w"
          refine SUB_list .frozen (by walk_at "om") (get_map (k := i) hrv) ?_
          walk_at "w"
          refine C_plain (b := b0) (O := offAt cs L) (e := offAt cs L (i + 1)) X okx hb fun D => ?_
          refine zk _ _ ?_
          refine INP_addl (.tail .head) (IsL.at (by walk_at "mem")) (by rw [List.length_map, List.length_map]; unfold sizeLine; lia) ?_
          walk_at "s"
          walk_at "s"
          refine XV_forget ?_
          walk_at "w"
          exact fin
    · rintro ρ τ ⟨o1, o2, o3, o4, o6, o7, rfl, rfl⟩
      rw [List.length_map, List.length_range]
      walk_at "w"
      refine CALL_bytes_ints (IsL.at (by walk_at "mem")) (encTo_in cs L cs.length) ?_
      walk_at "w"
      exact ⟨_, _, .refl _, h⟩
end
/-! the plain law: which branches are long -/
noncomputable def longOf (h : List Int) (r : Int) : Bool := decide (0 ≤ r) && (atI h r.toNat == 1)
abbrev Tb := List (Ins × Int)
noncomputable abbrev neg (l : List Ins) : Tb := l.map fun x => (x, (-1 : Int))
noncomputable def tabT (k : Nat) (sides ops : List Int) (ahead far mid : List Ins) (fk bk : Nat → Nat) : Tb :=
  neg ahead.reverse ++ (foresN k sides).map (fun r => (Ins.num (atI ops r) (ahead.length + k + mid.length + fk r), (r : Int))) ++ neg mid ++ (backsN k sides).map (fun r => (Ins.num (atI ops r) (ahead.length - bk r), (r : Int))) ++ neg (far ++ [.num 42 0])
theorem tab_cs {k : Nat} {sides ops : List Int} {ahead far mid : List Ins} {fk bk : Nat → Nat} : (tabT k sides ops ahead far mid fk bk).map (·.1) = codeOf k sides ops ahead far mid fk bk := by
  simp [tabT, codeOf, Function.comp_def]
theorem tab_rk {k : Nat} {sides ops : List Int} {ahead far mid : List Ins} {fk bk : Nat → Nat} : (tabT k sides ops ahead far mid fk bk).map (·.2) = ranksOf k sides ahead far mid := by
  simp [tabT, ranksOf, Function.comp_def, List.map_const']
  rw [List.replicate_succ']
noncomputable def sz (h : List Int) (t : Ins × Int) : Int := sizeL t.1 (longOf h t.2)
noncomputable def SZ (h : List Int) (U : Tb) : Int := (U.map (sz h)).sum
theorem SZ_append (h : List Int) (U V : Tb) : SZ h (U ++ V) = SZ h U + SZ h V := by simp [SZ]
theorem SZ_cons (h : List Int) (t : Ins × Int) (V : Tb) : SZ h (t :: V) = sz h t + SZ h V := by simp [SZ]
theorem SZ_neg (h : List Int) (l : List Ins) : SZ h (neg l) = sumS l := by
  rw [SZ, neg, List.map_map, sumS]; rfl
noncomputable def Lof (T : Tb) (h : List Int) : List Bool := T.map fun t => longOf h t.2
theorem offsL_take : ∀ (l : List Int) (a : Int) {i : Nat}, i ≤ l.length → (offsL a l).getD i 0 = a + (l.take i).sum
  | l, a, 0, _ => by rw [offsL_get0]; simp
  | [], _, i + 1, h => by simp at h
  | x :: l, a, i + 1, h => by
    show (offsL (a + x) l).getD i 0 = a + (x :: l.take i).sum
    rw [offsL_take l (a + x) (by simpa using h), List.sum_cons]; lia
theorem sizes_tab (T : Tb) (h : List Int) : sizesL (T.map (·.1)) (Lof T h) = T.map (sz h) := by
  unfold sizesL Lof
  induction T with
  | nil => rfl
  | cons t T ih => simp only [List.map_cons, List.zipWith_cons_cons]; rw [ih]; rfl
theorem off_tab {T U V : Tb} (h : List Int) (e : T = U ++ V) : offAt (T.map (·.1)) (Lof T h) U.length = SZ h U := by
  rw [offAt, offs, sizes_tab, offsL_take _ _ (by rw [List.length_map, e, List.length_append]; lia), e, List.map_append, List.take_left' (by simp), SZ]
  lia
theorem sum_23 {l : List Nat} {f g : Nat → Int} (h : ∀ r ∈ l, f r = 2 + 3 * g r) : (l.map f).sum = 2 * l.length + 3 * (l.map g).sum := by
  induction l with
  | nil => rfl
  | cons x l ih =>
    rw [List.map_cons, List.map_cons, List.sum_cons, List.sum_cons, List.length_cons, h x (.head _), ih fun y hy => h y (.tail _ hy)]
    lia
theorem sz_br {h : List Int} {k r : Nat} {op n : Int} (hg : G01 k h) (hr : r < k) (hb : isBrN op = true) (hn : 0 ≤ n) : sz h (.num op n, (r : Int)) = 2 + 3 * atI h r := by
  rw [sz, sizeL_br (c := n + 1) (.br op n hb hn (by lia)) hb]
  have e : longOf h (r : Int) = (atI h r == 1) := by simp [longOf]
  rw [e]
  rcases hg.bit r hr with q | q <;> rw [q] <;> rfl
theorem SZ_br {h : List Int} {k : Nat} {l : List Nat} {op n : Nat → Int} (hg : G01 k h) (hr : ∀ r ∈ l, r < k) (hb : ∀ r ∈ l, isBrN (op r) = true) (hn : ∀ r ∈ l, 0 ≤ n r) :
    SZ h (l.map fun r => (Ins.num (op r) (n r), (r : Int))) = 2 * l.length + 3 * (l.map (atI h)).sum := by
  rw [SZ, List.map_map]
  exact sum_23 fun r hr' => sz_br hg (hr r hr') (hb r hr') (hn r hr')
/-! sums over picked numbers -/
noncomputable def pk (n : Nat) (p : Nat → Bool) : List Nat := (List.range n).filter p
theorem pk_split {n r : Nat} {p : Nat → Bool} (hr : r < n) (hp : p r = true) : ∃ q, pk n p = pk r p ++ r :: q ∧ ∀ x ∈ q, r < x := by
  obtain ⟨d, rfl⟩ : ∃ d, n = r + 1 + d := ⟨n - (r + 1), by lia⟩
  refine ⟨((List.range d).map (r + 1 + ·)).filter p, ?_, fun x hx => ?_⟩
  · rw [pk, List.range_add, List.filter_append, List.range_succ, List.filter_append, List.filter_cons_of_pos hp, pk]; simp
  · obtain ⟨y, _, rfl⟩ := List.mem_map.mp (List.mem_filter.mp hx).1
    lia
theorem sum_filter_or {l : List Nat} {p q : Nat → Bool} (f : Nat → Int) (h : ∀ x ∈ l, ¬ (p x = true ∧ q x = true)) : ((l.filter fun x => p x || q x).map f).sum = ((l.filter p).map f).sum + ((l.filter q).map f).sum := by
  induction l with
  | nil => rfl
  | cons x l ih =>
    have ih := ih fun y hy => h y (.tail _ hy)
    have hx := h x (.head _)
    simp only [List.filter_cons]
    cases hp : p x <;> cases hq : q x <;> simp_all <;> lia
theorem pk_lt {n r : Nat} {p : Nat → Bool} (hr : r ≤ n) : (pk n fun c => p c && decide (c < r)) = pk r p := by
  obtain ⟨d, rfl⟩ : ∃ d, n = r + d := ⟨n - r, by lia⟩
  rw [pk, List.range_add, List.filter_append]
  have e1 : ((List.range d).map (r + ·)).filter (fun c => p c && decide (c < r)) = [] := by
    rw [List.filter_eq_nil_iff]
    intro x hx
    obtain ⟨y, _, rfl⟩ := List.mem_map.mp hx
    simp
  rw [e1, List.append_nil, pk]
  apply List.filter_congr
  intro x hx
  have := List.mem_range.mp hx
  simp [this]
theorem range_atI (l : List Int) : (List.range l.length).map (atI l) = l := by
  apply List.ext_getElem?
  intro i
  rw [List.getElem?_map]
  rcases Nat.lt_or_ge i l.length with h | h
  · rw [List.getElem?_range h, atI_get h]; rfl
  · rw [List.getElem?_eq_none (by simpa using h), List.getElem?_eq_none h]; rfl
theorem other_pk (sides : List Int) (r : Nat) : otherN sides r = (pk sides.length fun c => atI sides c != atI sides r).length := by
  have e : ∀ v : Int, (sides.filter fun s => s != v).length = ((List.range sides.length).filter fun c => atI sides c != v).length := fun v => by
    conv => lhs; rw [← range_atI sides]
    rw [List.filter_map, List.length_map]
    rfl
  exact e _
theorem same_pk (sides : List Int) (r : Nat) : sameN sides r = (pk r fun c => atI sides c == atI sides r).length := rfl
theorem push_pk {sides h : List Int} {r : Nat} (hr : r ≤ sides.length) : pushN sides h r = ((pk sides.length fun c => atI sides c != atI sides r).map (atI h)).sum + ((pk r fun c => atI sides c == atI sides r).map (atI h)).sum := by
  have e : pickN sides sides.length r = (List.range sides.length).filter fun c => (atI sides c != atI sides r) || (atI sides c == atI sides r && decide (c < r)) := by
    unfold pickN
    apply List.filter_congr
    intro c _
    show ((atI sides c != atI sides r) || decide (c < r)) = ((atI sides c != atI sides r) || (atI sides c == atI sides r && decide (c < r)))
    rw [bne]
    cases (atI sides c == atI sides r) <;> rfl
  rw [pushN, e, sum_filter_or (p := fun c => atI sides c != atI sides r) (q := fun c => atI sides c == atI sides r && decide (c < r)) _ (fun x _ hx => by simp at hx; exact hx.1 hx.2.1)]
  have := pk_lt (n := sides.length) (p := fun c => atI sides c == atI sides r) hr
  unfold pk at this ⊢
  rw [this]
theorem sumS_reverse (l : List Ins) : sumS l.reverse = sumS l := by
  rw [sumS, List.map_reverse, List.sum_reverse, sumS]
theorem pk_mem {n r : Nat} {p : Nat → Bool} : r ∈ pk n p ↔ r < n ∧ p r = true := by
  rw [pk, List.mem_filter, List.mem_range]
noncomputable abbrev p0 (sides : List Int) : Nat → Bool := fun r => atI sides r == 0
noncomputable abbrev p1 (sides : List Int) : Nat → Bool := fun r => atI sides r == 1
theorem pk_congr {n : Nat} {p q : Nat → Bool} (h : ∀ r, r < n → p r = q r) : pk n p = pk n q := List.filter_congr fun r hr => h r (List.mem_range.mp hr)
section
variable {k : Nat} {sides spare ops : List Int} {gap : Int} {ahead far mid : List Ins} {fk bk : Nat → Nat}
theorem fb_len (La : Ladder k sides spare ops gap) : (pk k (p0 sides)).length + (pk k (p1 sides)).length = k := by
  have e : pk k (p1 sides) = pk k (fun r => !(p0 sides r)) := pk_congr fun r hr => by
    show (atI sides r == 1) = !(atI sides r == 0)
    rcases La.sd r hr with h | h <;> rw [h] <;> rfl
  have := List.length_eq_countP_add_countP (p0 sides) (l := List.range k)
  rw [List.length_range, List.countP_eq_length_filter, List.countP_eq_length_filter] at this
  rw [e]
  have e2 : (List.range k).filter (fun a => decide ¬(p0 sides a) = true) = pk k (fun r => !(p0 sides r)) := List.filter_congr fun r _ => by
    show decide (¬ (p0 sides r = true)) = !(p0 sides r)
    cases p0 sides r <;> rfl
  rw [e2] at this
  exact this.symm
theorem far_dec {way p s : Int} (h : way = 127 - s + 3 * p) (h0 : -1 ≤ s) (h1 : s ≤ 30) (hp : 0 ≤ p) : farB way = decide (3 * p > s) := by
  unfold farB
  by_cases q : 3 * p > s
  · rw [decide_eq_true q, decide_eq_true (show way > 127 by lia), Bool.or_true]
  · rw [decide_eq_false q, decide_eq_false (show ¬ way > 127 by lia), decide_eq_false (show ¬ way < -128 by lia)]; rfl
theorem far_dec' {way p s : Int} (h : way = -(128 - s + 3 * p)) (h0 : -1 ≤ s) (h1 : s ≤ 30) (hp : 0 ≤ p) : farB way = decide (3 * p > s) := by
  unfold farB
  by_cases q : 3 * p > s
  · rw [decide_eq_true q, decide_eq_true (show way < -128 by lia), Bool.true_or]
  · rw [decide_eq_false q, decide_eq_false (show ¬ way > 127 by lia), decide_eq_false (show ¬ way < -128 by lia)]; rfl
theorem push_nn {sides h : List Int} {r : Nat} (hg : G01 sides.length h) : 0 ≤ pushN sides h r := by
  unfold pushN
  have : ∀ l : List Nat, (∀ c ∈ l, c < sides.length) → 0 ≤ (l.map (atI h)).sum := by
    intro l hl
    induction l with
    | nil => exact Int.le_refl _
    | cons c l ih =>
      rw [List.map_cons, List.sum_cons]
      have := hg.bit c (hl c (.head _))
      have := ih fun y hy => hl y (.tail _ hy)
      lia
  exact this _ fun c hc => pick_lt hc
theorem fores_pk : foresN k sides = (pk k (p0 sides)).reverse := rfl
theorem backs_pk : backsN k sides = pk k (p1 sides) := rfl
theorem rank_far (La : Ladder k sides spare ops gap) (Pa : Parts k sides spare ops gap ahead far mid fk bk) {r : Nat} (hr : r < k) :
    ∃ U V n, tabT k sides ops ahead far mid fk bk = U ++ (Ins.num (atI ops r) n, (r : Int)) :: V ∧ ∀ h, G01 k h → atI h r = 0 →
      Mine.far ((tabT k sides ops ahead far mid fk bk).map (·.1)) (Lof (tabT k sides ops ahead far mid fk bk) h) U.length n = decide (3 * pushN sides h r > atI spare r) := by
  have hl1 := La.l1
  have hfb := fb_len La
  have hsp := La.sp r hr
  have k10 := La.k10
  have hop := La.op
  rcases La.sd r hr with hs | hs
  · -- the way goes fore
    obtain ⟨q, eq, hq⟩ := pk_split (p := p0 sides) hr (by show (atI sides r == 0) = true; rw [hs]; rfl)
    have hrf : r ∈ foresN k sides := by rw [fores_pk, eq]; simp
    obtain ⟨hf1, hf2⟩ := Pa.fz r hrf
    let rowF : Nat → Ins × Int := fun r => (Ins.num (atI ops r) (ahead.length + k + mid.length + fk r), (r : Int))
    let rowK : Nat → Ins × Int := fun r => (Ins.num (atI ops r) (ahead.length - bk r), (r : Int))
    have ef : foresN k sides = q.reverse ++ r :: (pk r (p0 sides)).reverse := by rw [fores_pk, eq]; simp
    have eT : tabT k sides ops ahead far mid fk bk = (neg ahead.reverse ++ q.reverse.map rowF) ++ rowF r :: ((pk r (p0 sides)).reverse.map rowF ++ neg mid ++ (backsN k sides).map rowK ++ neg (far.take (fk r)) ++ neg (far.drop (fk r) ++ [.num 42 0])) := by
      unfold tabT
      rw [ef]
      have : neg (far ++ [Ins.num 42 0]) = neg (far.take (fk r)) ++ neg (far.drop (fk r) ++ [.num 42 0]) := by
        rw [neg, neg, neg, ← List.map_append, ← List.append_assoc, List.take_append_drop]
      rw [this]
      simp only [List.map_append, List.map_cons, List.append_assoc, List.cons_append]
      rfl
    refine ⟨_, _, _, eT, fun h hg hz => ?_⟩
    have hcnt : (pk k (p0 sides)).length = (pk r (p0 sides)).length + 1 + q.length := by rw [eq, List.length_append, List.length_cons]; lia
    have o1 := off_tab h (T := tabT k sides ops ahead far mid fk bk) (U := (neg ahead.reverse ++ q.reverse.map rowF) ++ [rowF r]) (V := (pk r (p0 sides)).reverse.map rowF ++ neg mid ++ (backsN k sides).map rowK ++ neg (far.take (fk r)) ++ neg (far.drop (fk r) ++ [.num 42 0])) (by rw [eT]; simp only [List.append_assoc, List.cons_append, List.nil_append])
    have o2 := off_tab h (T := tabT k sides ops ahead far mid fk bk) (U := (neg ahead.reverse ++ q.reverse.map rowF) ++ [rowF r] ++ ((pk r (p0 sides)).reverse.map rowF ++ neg mid ++ (backsN k sides).map rowK ++ neg (far.take (fk r)))) (V := neg (far.drop (fk r) ++ [.num 42 0])) (by rw [eT]; simp only [List.append_assoc, List.cons_append, List.nil_append])
    rw [SZ_append] at o2
    have l2 : ((neg ahead.reverse ++ q.reverse.map rowF) ++ [rowF r] ++ ((pk r (p0 sides)).reverse.map rowF ++ neg mid ++ (backsN k sides).map rowK ++ neg (far.take (fk r)))).length = ((ahead.length : Int) + k + mid.length + fk r).toNat := by
      simp only [List.length_append, List.length_map, List.length_reverse, List.length_cons, List.length_nil, List.length_take, backs_pk]
      lia
    rw [l2] at o2
    have l1 : ((neg ahead.reverse ++ q.reverse.map rowF) ++ [rowF r]).length = (neg ahead.reverse ++ q.reverse.map rowF).length + 1 := by simp; lia
    rw [l1] at o1
    unfold Mine.far
    rw [o1, o2]
    have hgk : G01 sides.length h := by rw [hl1]; exact hg
    refine far_dec ?_ (by lia) (by lia) (push_nn (r := r) hgk)
    have s1 : SZ h ((pk r (p0 sides)).reverse.map rowF) = 2 * (pk r (p0 sides)).reverse.length + 3 * ((pk r (p0 sides)).reverse.map (atI h)).sum :=
      SZ_br hg (fun c hc => by have := (pk_mem.mp (List.mem_reverse.mp hc)).1; lia) (fun c hc => hop c (by have := (pk_mem.mp (List.mem_reverse.mp hc)).1; lia)) (fun c _ => by lia)
    have s2 : SZ h ((backsN k sides).map rowK) = 2 * (backsN k sides).length + 3 * ((backsN k sides).map (atI h)).sum :=
      SZ_br hg (fun c hc => (pk_mem.mp hc).1) (fun c hc => hop c (pk_mem.mp hc).1) (fun c hc => by have := (Pa.bz c hc).1; lia)
    have hW : SZ h ((pk r (p0 sides)).reverse.map rowF ++ neg mid ++ (backsN k sides).map rowK ++ neg (far.take (fk r))) = 2 * (pk r (p0 sides)).length + 3 * ((pk r (p0 sides)).map (atI h)).sum + gap + (2 * (backsN k sides).length + 3 * ((backsN k sides).map (atI h)).sum) + goalN sides spare gap r := by
      rw [SZ_append, SZ_append, SZ_append, s1, s2, SZ_neg, SZ_neg, Pa.sm, hf2, List.length_reverse, List.map_reverse, List.sum_reverse]
    rw [hW]
    have e3 : (pk sides.length fun c => atI sides c != atI sides r) = backsN k sides := by
      rw [hl1, backs_pk]
      refine pk_congr fun c hc => ?_
      show (atI sides c != atI sides r) = (atI sides c == 1)
      rw [hs]
      rcases La.sd c hc with e | e <;> rw [e] <;> rfl
    have e4 : (pk r fun c => atI sides c == atI sides r) = pk r (p0 sides) := by rw [hs]
    have hpush := push_pk (h := h) (show r ≤ sides.length by lia)
    have hoth := other_pk sides r
    have hsame := same_pk sides r
    rw [e3] at hpush hoth
    rw [e4] at hpush hsame
    unfold goalN
    lia
  · -- the way goes back
    obtain ⟨q, eq, hq⟩ := pk_split (p := p1 sides) hr (by show (atI sides r == 1) = true; rw [hs]; rfl)
    have hrf : r ∈ backsN k sides := by rw [backs_pk, eq]; simp
    obtain ⟨hb1, hb2⟩ := Pa.bz r hrf
    let rowF : Nat → Ins × Int := fun r => (Ins.num (atI ops r) (ahead.length + k + mid.length + fk r), (r : Int))
    let rowK : Nat → Ins × Int := fun r => (Ins.num (atI ops r) (ahead.length - bk r), (r : Int))
    have eA : neg ahead.reverse = neg (ahead.drop (bk r)).reverse ++ neg (ahead.take (bk r)).reverse := by
      rw [neg, neg, neg, ← List.map_append, ← List.reverse_append, List.take_append_drop]
    have eT : tabT k sides ops ahead far mid fk bk = neg (ahead.drop (bk r)).reverse ++ (neg (ahead.take (bk r)).reverse ++ (foresN k sides).map rowF ++ neg mid ++ (pk r (p1 sides)).map rowK) ++ rowK r :: (q.map rowK ++ neg (far ++ [.num 42 0])) := by
      unfold tabT
      rw [eA, backs_pk, eq]
      simp only [List.map_append, List.map_cons, List.append_assoc, List.cons_append]
      rfl
    refine ⟨_, _, _, eT, fun h hg hz => ?_⟩
    have hcnt : (pk k (p1 sides)).length = (pk r (p1 sides)).length + 1 + q.length := by rw [eq, List.length_append, List.length_cons]; lia
    have o1 := off_tab h (T := tabT k sides ops ahead far mid fk bk) (U := neg (ahead.drop (bk r)).reverse ++ ((neg (ahead.take (bk r)).reverse ++ (foresN k sides).map rowF ++ neg mid ++ (pk r (p1 sides)).map rowK) ++ [rowK r])) (V := q.map rowK ++ neg (far ++ [.num 42 0])) (by rw [eT]; simp only [List.append_assoc, List.cons_append, List.nil_append])
    have o2 := off_tab h (T := tabT k sides ops ahead far mid fk bk) (U := neg (ahead.drop (bk r)).reverse) (V := (neg (ahead.take (bk r)).reverse ++ (foresN k sides).map rowF ++ neg mid ++ (pk r (p1 sides)).map rowK) ++ rowK r :: (q.map rowK ++ neg (far ++ [.num 42 0]))) (by rw [eT]; simp only [List.append_assoc, List.cons_append, List.nil_append])
    rw [SZ_append] at o1
    have l2 : (neg (ahead.drop (bk r)).reverse).length = ((ahead.length : Int) - bk r).toNat := by
      simp only [List.length_map, List.length_reverse, List.length_drop]
      lia
    rw [l2] at o2
    have l1 : (neg (ahead.drop (bk r)).reverse ++ ((neg (ahead.take (bk r)).reverse ++ (foresN k sides).map rowF ++ neg mid ++ (pk r (p1 sides)).map rowK) ++ [rowK r])).length = (neg (ahead.drop (bk r)).reverse ++ (neg (ahead.take (bk r)).reverse ++ (foresN k sides).map rowF ++ neg mid ++ (pk r (p1 sides)).map rowK)).length + 1 := by simp only [List.length_append, List.length_cons, List.length_nil]; lia
    rw [l1] at o1
    unfold Mine.far
    rw [o1, o2]
    have hgk : G01 sides.length h := by rw [hl1]; exact hg
    refine far_dec' ?_ (by lia) (by lia) (push_nn (r := r) hgk)
    have s1 : SZ h ((pk r (p1 sides)).map rowK) = 2 * (pk r (p1 sides)).length + 3 * ((pk r (p1 sides)).map (atI h)).sum :=
      SZ_br hg (fun c hc => by have := (pk_mem.mp hc).1; lia) (fun c hc => hop c (by have := (pk_mem.mp hc).1; lia)) (fun c hc => by
        have := (Pa.bz c (by rw [backs_pk]; exact pk_mem.mpr ⟨by have := (pk_mem.mp hc).1; lia, (pk_mem.mp hc).2⟩)).1; lia)
    have s2 : SZ h ((foresN k sides).map rowF) = 2 * (foresN k sides).length + 3 * ((foresN k sides).map (atI h)).sum :=
      SZ_br hg (fun c hc => (pk_mem.mp (List.mem_reverse.mp hc)).1) (fun c hc => hop c (pk_mem.mp (List.mem_reverse.mp hc)).1) (fun c hc => by lia)
    have s3 : SZ h [rowK r] = 2 := by
      rw [SZ_cons, sz_br hg hr (hop r hr) (by lia), hz]; simp [SZ]
    have hW : SZ h ((neg (ahead.take (bk r)).reverse ++ (foresN k sides).map rowF ++ neg mid ++ (pk r (p1 sides)).map rowK) ++ [rowK r]) = goalN sides spare gap r + (2 * (pk k (p0 sides)).length + 3 * ((pk k (p0 sides)).map (atI h)).sum) + gap + (2 * (pk r (p1 sides)).length + 3 * ((pk r (p1 sides)).map (atI h)).sum) + 2 := by
      rw [SZ_append, SZ_append, SZ_append, SZ_append, s1, s2, s3, SZ_neg, SZ_neg, Pa.sm, sumS_reverse, hb2, fores_pk, List.length_reverse, List.map_reverse, List.sum_reverse]
    rw [hW]
    have e3 : (pk sides.length fun c => atI sides c != atI sides r) = pk k (p0 sides) := by
      rw [hl1]
      refine pk_congr fun c hc => ?_
      show (atI sides c != atI sides r) = (atI sides c == 0)
      rw [hs]
      rcases La.sd c hc with e | e <;> rw [e] <;> rfl
    have e4 : (pk r fun c => atI sides c == atI sides r) = pk r (p1 sides) := by rw [hs]
    have hpush := push_pk (h := h) (show r ≤ sides.length by lia)
    have hoth := other_pk sides r
    have hsame := same_pk sides r
    rw [e3] at hpush hoth
    rw [e4] at hpush hsame
    unfold goalN
    lia
end
theorem goal_bounds {k : Nat} {sides spare ops : List Int} {gap : Int} (La : Ladder k sides spare ops gap) : ∀ r, r < k → 0 ≤ goalN sides spare gap r ∧ goalN sides spare gap r ≤ 1000 := by
  intro r hr
  have hfb := fb_len La
  have hsp := La.sp r hr
  have gp := La.gp
  have k10 := La.k10
  have hl1 := La.l1
  have hoth := other_pk sides r
  have hsame := same_pk sides r
  have key : sameN sides r + otherN sides r + 1 ≤ k := by
    rcases La.sd r hr with hs | hs
    · obtain ⟨q, eq, hq⟩ := pk_split (p := p0 sides) hr (by show (atI sides r == 0) = true; rw [hs]; rfl)
      have e3 : (pk sides.length fun c => atI sides c != atI sides r) = pk k (p1 sides) := by
        rw [hl1]
        refine pk_congr fun c hc => ?_
        show (atI sides c != atI sides r) = (atI sides c == 1)
        rw [hs]
        rcases La.sd c hc with e | e <;> rw [e] <;> rfl
      have e4 : (pk r fun c => atI sides c == atI sides r) = pk r (p0 sides) := by rw [hs]
      rw [e3] at hoth
      rw [e4] at hsame
      have := congrArg List.length eq
      rw [List.length_append, List.length_cons] at this
      lia
    · obtain ⟨q, eq, hq⟩ := pk_split (p := p1 sides) hr (by show (atI sides r == 1) = true; rw [hs]; rfl)
      have e3 : (pk sides.length fun c => atI sides c != atI sides r) = pk k (p0 sides) := by
        rw [hl1]
        refine pk_congr fun c hc => ?_
        show (atI sides c != atI sides r) = (atI sides c == 0)
        rw [hs]
        rcases La.sd c hc with e | e <;> rw [e] <;> rfl
      have e4 : (pk r fun c => atI sides c == atI sides r) = pk r (p1 sides) := by rw [hs]
      rw [e3] at hoth
      rw [e4] at hsame
      have := congrArg List.length eq
      rw [List.length_append, List.length_cons] at this
      lia
  have := La.sd r hr
  unfold goalN
  lia
theorem uniq_of {p : Int → Bool} : ∀ {l : List Int}, (l.filter p).Nodup → ∀ {i j : Nat} {v : Int}, p v = true → l[i]? = some v → l[j]? = some v → i = j
  | [], _, _, _, _, _, h, _ => by simp at h
  | x :: l, nd, i, j, v, hv, hi, hj => by
    have nd' : (l.filter p).Nodup := by
      rw [List.filter_cons] at nd
      split at nd
      · exact (List.nodup_cons.mp nd).2
      · exact nd
    have out : x = v → v ∉ l := fun e hm => by
      subst e
      rw [List.filter_cons_of_pos hv] at nd
      exact (List.nodup_cons.mp nd).1 (List.mem_filter.mpr ⟨hm, hv⟩)
    cases i with
    | zero =>
      cases j with
      | zero => rfl
      | succ j => simp at hi hj; exact absurd (List.mem_of_getElem? hj) (out hi)
    | succ i =>
      cases j with
      | zero => simp at hi hj; exact absurd (List.mem_of_getElem? hi) (out hj)
      | succ j => simp at hi hj; rw [uniq_of nd' hv hi hj]
section
variable {k : Nat} {sides spare ops : List Int} {gap : Int} {ahead far mid : List Ins} {fk bk : Nat → Nat}
/-- what a row of the table is -/
def RowIs (k : Nat) (ops : List Int) (c : Int) (t : Ins × Int) : Prop := (t.2 = -1 ∧ t.1.br = false ∧ t.1.Ok c) ∨ ∃ (r : Nat) (n : Int), r < k ∧ t.2 = r ∧ t.1 = .num (atI ops r) n ∧ isBrN (atI ops r) = true ∧ 0 ≤ n ∧ n < c
theorem RowIs.ok {c : Int} {t : Ins × Int} (h : RowIs k ops c t) : t.1.Ok c := by
  rcases h with h | ⟨r, n, hr, e1, e2, hb, h0, h1⟩
  · exact h.2.2
  · rw [e2]; exact .br _ _ hb h0 h1
theorem tab_len (La : Ladder k sides spare ops gap) : ((tabT k sides ops ahead far mid fk bk).length : Int) = ahead.length + k + mid.length + far.length + 1 := by
  have := fb_len La
  simp only [tabT, List.length_append, List.length_map, List.length_reverse, fores_pk, backs_pk, List.length_cons, List.length_nil]
  lia
theorem tab_row (La : Ladder k sides spare ops gap) (Pa : Parts k sides spare ops gap ahead far mid fk bk) : ∀ t ∈ tabT k sides ops ahead far mid fk bk, RowIs k ops (tabT k sides ops ahead far mid fk bk).length t := by
  have hlen := tab_len (ahead := ahead) (far := far) (mid := mid) (fk := fk) (bk := bk) La
  intro t ht
  unfold tabT at ht
  rcases List.mem_append.mp ht with ht | ht
  · rcases List.mem_append.mp ht with ht | ht
    · rcases List.mem_append.mp ht with ht | ht
      · rcases List.mem_append.mp ht with ht | ht
        · obtain ⟨x, hx, rfl⟩ := List.mem_map.mp ht
          have := Pa.pa x (List.mem_reverse.mp hx)
          exact .inl ⟨rfl, this.nb, this.ok _⟩
        · obtain ⟨r, hr, rfl⟩ := List.mem_map.mp ht
          have hk := (pk_mem.mp (List.mem_reverse.mp hr)).1
          have := (Pa.fz r hr).1
          exact .inr ⟨r, _, hk, rfl, rfl, La.op r hk, by lia, by lia⟩
      · obtain ⟨x, hx, rfl⟩ := List.mem_map.mp ht
        rcases Pa.pm x hx with q | ⟨gs, rfl, q1, q2⟩
        · exact .inl ⟨rfl, q.nb, q.ok _⟩
        · exact .inl ⟨rfl, rfl, .sw gs (by lia) fun g hg => by have := q2 g hg; lia⟩
    · obtain ⟨r, hr, rfl⟩ := List.mem_map.mp ht
      have hk := (pk_mem.mp hr).1
      have := (Pa.bz r hr).1
      exact .inr ⟨r, _, hk, rfl, rfl, La.op r hk, by lia, by lia⟩
  · obtain ⟨x, hx, rfl⟩ := List.mem_map.mp ht
    rcases List.mem_append.mp hx with hx | hx
    · have := Pa.pf x hx
      exact .inl ⟨rfl, this.nb, this.ok _⟩
    · rw [List.mem_singleton.mp hx]
      exact .inl ⟨rfl, rfl, .none _ (.inr rfl)⟩
theorem tab_nd (La : Ladder k sides spare ops gap) : (((tabT k sides ops ahead far mid fk bk).map (·.2)).filter fun v => decide (0 ≤ v)).Nodup := by
  have e : ((tabT k sides ops ahead far mid fk bk).map (·.2)).filter (fun v => decide (0 ≤ v)) = (foresN k sides ++ backsN k sides).map fun r : Nat => (r : Int) := by
    have neg0 : ∀ n : Nat, (List.replicate n (-1 : Int)).filter (fun v => decide (0 ≤ v)) = [] := fun n => by
      rw [List.filter_eq_nil_iff]; intro x hx; rw [(List.mem_replicate.mp hx).2]; decide
    have pos0 : ∀ l : List Nat, (l.map fun r : Nat => (r : Int)).filter (fun v => decide (0 ≤ v)) = l.map fun r : Nat => (r : Int) := fun l => by
      rw [List.filter_eq_self]; intro x hx; obtain ⟨r, _, rfl⟩ := List.mem_map.mp hx; simp
    rw [tab_rk, ranksOf]
    simp only [List.filter_append, neg0, pos0, List.nil_append, List.append_nil, List.map_append]
  rw [e]
  refine List.pairwise_map.mpr (List.Pairwise.imp (R := fun a b => a ≠ b) (fun h q => h (Int.ofNat_inj.mp q)) ?_)
  refine List.nodup_append.mpr ⟨?_, ?_, ?_⟩
  · rw [fores_pk]; exact List.pairwise_reverse.mpr ((List.nodup_range.filter (p0 sides)).imp fun h q => h q.symm)
  · exact List.nodup_range.filter _
  · intro x hx y hy e
    subst e
    have h0 := (pk_mem.mp (List.mem_reverse.mp hx)).2
    have h1 := (pk_mem.mp hy).2
    simp at h0 h1
    lia
theorem SZ_len {h : List Int} {c : Int} : ∀ {U : Tb}, (∀ t ∈ U, t.1.Ok c) → (U.length : Int) ≤ SZ h U
  | [], _ => by simp [SZ]
  | t :: U, ht => by
    have := SZ_len (h := h) (U := U) fun s hs => ht s (.tail _ hs)
    have h1 := sizeL_pos (b := longOf h t.2) (ht t (.head _))
    rw [SZ_cons, List.length_cons, sz]
    lia
theorem SZ_tab (La : Ladder k sides spare ops gap) (Pa : Parts k sides spare ops gap ahead far mid fk bk) {h : List Int} (hg : G01 k h) : SZ h (tabT k sides ops ahead far mid fk bk) ≤ 5000 := by
  have hfb := fb_len La
  have k10 := La.k10
  have gp := La.gp
  have bnd : ∀ l : List Nat, (∀ c ∈ l, c < k) → (l.map (atI h)).sum ≤ l.length := by
    intro l hl
    induction l with
    | nil => exact Int.le_refl _
    | cons c l ih =>
      rw [List.map_cons, List.sum_cons, List.length_cons]
      have := hg.bit c (hl c (.head _))
      have := ih fun y hy => hl y (.tail _ hy)
      lia
  have s1 := SZ_br (op := atI ops) (n := fun r => (ahead.length + k + mid.length + fk r : Int)) (l := foresN k sides) hg (fun c hc => (pk_mem.mp (List.mem_reverse.mp hc)).1) (fun c hc => La.op c (pk_mem.mp (List.mem_reverse.mp hc)).1) (fun c hc => by lia)
  have s2 := SZ_br (op := atI ops) (n := fun r => (ahead.length - bk r : Int)) (l := backsN k sides) hg (fun c hc => (pk_mem.mp hc).1) (fun c hc => La.op c (pk_mem.mp hc).1) (fun c hc => by have := (Pa.bz c hc).1; lia)
  have b1 := bnd (foresN k sides) fun c hc => (pk_mem.mp (List.mem_reverse.mp hc)).1
  have b2 := bnd (backsN k sides) fun c hc => (pk_mem.mp hc).1
  have l1 : (foresN k sides).length = (pk k (p0 sides)).length := by rw [fores_pk, List.length_reverse]
  have l2 : (backsN k sides).length = (pk k (p1 sides)).length := rfl
  have h42 : sumS [Ins.num 42 0] = 1 := by rw [sumS_one]; rfl
  have := Pa.sa
  have := Pa.sf
  have := Pa.sm
  unfold tabT
  rw [SZ_append, SZ_append, SZ_append, SZ_append, s1, s2, SZ_neg, SZ_neg, SZ_neg, sumS_append, h42, sumS_reverse]
  lia
end
section
variable {k : Nat} {sides spare ops : List Int} {gap : Int} {ahead far mid : List Ins} {fk bk : Nat → Nat}
theorem tab_at {T : Tb} {i : Nat} {x : Ins} (h : (T.map (·.1))[i]? = some x) : ∃ t, T[i]? = some t ∧ t.1 = x := by
  rw [List.getElem?_map] at h
  exact Option.map_eq_some_iff.mp h
theorem Lof_at {T : Tb} {h : List Int} {i : Nat} {t : Ins × Int} (e : T[i]? = some t) : (Lof T h)[i]? = some (longOf h t.2) := by
  rw [Lof, List.getElem?_map, e]; rfl
theorem longOf_nat (h : List Int) (r : Nat) : longOf h (r : Int) = (atI h r == 1) := by simp [longOf]
/-- how far the branch of the row i goes, when it is short -/
theorem far_at (La : Ladder k sides spare ops gap) (Pa : Parts k sides spare ops gap ahead far mid fk bk) {h : List Int} (hg : G01 k h) {i r : Nat} {op n : Int} (hr : r < k)
    (hi : (tabT k sides ops ahead far mid fk bk)[i]? = some (Ins.num op n, (r : Int))) (hz : atI h r = 0) :
    Mine.far ((tabT k sides ops ahead far mid fk bk).map (·.1)) (Lof (tabT k sides ops ahead far mid fk bk) h) i n = decide (3 * pushN sides h r > atI spare r) := by
  obtain ⟨U, V, n', e, hf⟩ := rank_far La Pa hr
  have hU : (tabT k sides ops ahead far mid fk bk)[U.length]? = some (Ins.num (atI ops r) n', (r : Int)) := by rw [e]; simp
  have : i = U.length := uniq_of (tab_nd La) (v := (r : Int)) (by simp) (by rw [List.getElem?_map, hi]; rfl) (by rw [List.getElem?_map, hU]; rfl)
  subst this
  rw [hi] at hU
  have en : n = n' := by
    have h1 : (Ins.num op n, (r : Int)) = (Ins.num (atI ops r) n', (r : Int)) := Option.some.inj hU
    have h2 : Ins.num op n = Ins.num (atI ops r) n' := congrArg Prod.fst h1
    exact congrArg (fun x : Ins => match x with | .num _ n => n | .sw _ => 0) h2
  rw [en]
  exact hf h hg hz
theorem settles_tab (La : Ladder k sides spare ops gap) (Pa : Parts k sides spare ops gap ahead far mid fk bk) {g : List Int} (Gr : Grown sides spare g) :
    Settles ((tabT k sides ops ahead far mid fk bk).map (·.1)) (Lof (tabT k sides ops ahead far mid fk bk) g) := by
  have hl1 := La.l1
  have gg := Gr.g01
  rw [hl1] at gg
  have rows := tab_row La Pa
  have nd := tab_nd (ahead := ahead) (far := far) (mid := mid) (fk := fk) (bk := bk) La
  obtain ⟨T, hT⟩ : ∃ T, tabT k sides ops ahead far mid fk bk = T := ⟨_, rfl⟩
  have hfar := fun (h : List Int) (hg : G01 k h) (i r : Nat) (op n : Int) (hr : r < k) => far_at La Pa hg (i := i) (r := r) (op := op) (n := n) hr
  rw [hT] at rows nd hfar ⊢
  -- what is known of a list of long branches
  have key : ∀ L : List Bool, LeB L (Lof T g) → ∃ h, G01 k h ∧ Lof T h = L ∧ LeI k h g := by
    intro L hL
    have hlen : L.length = T.length := by rw [hL.1, Lof, List.length_map]
    let has : Nat → Prop := fun r => ∃ i : Nat, (T.map (·.2))[i]? = some (r : Int) ∧ L[i]? = some true
    let h : List Int := (List.range k).map fun r => if Classical.propDecidable (has r) |>.decide then 1 else 0
    have hat : ∀ r, r < k → atI h r = if (Classical.propDecidable (has r)).decide then 1 else 0 := fun r hr => by
      rw [atI, List.getD_eq_getElem?_getD, List.getElem?_map, List.getElem?_range hr]; rfl
    have hyes : ∀ r, r < k → has r → atI h r = 1 := fun r hr q => by rw [hat r hr, if_pos (@decide_eq_true _ (Classical.propDecidable _) q)]
    have hno : ∀ r, r < k → ¬ has r → atI h r = 0 := fun r hr q => by rw [hat r hr, if_neg (by rw [@decide_eq_false _ (Classical.propDecidable _) q]; decide)]
    have hg : G01 k h := ⟨by simp [h], fun r hr => (Classical.em (has r)).elim (fun q => .inr (hyes r hr q)) fun q => .inl (hno r hr q)⟩
    refine ⟨h, hg, ?_, fun r hr => ?_⟩
    · apply List.ext_getElem?
      intro i
      rcases Nat.lt_or_ge i T.length with hi | hi
      · have et : T[i]? = some T[i] := List.getElem?_eq_getElem hi
        have eb : L[i]? = some (L[i]'(by lia)) := List.getElem?_eq_getElem (by lia)
        rw [Lof_at et, eb]
        congr 1
        rcases rows _ (List.getElem_mem hi) with ⟨q1, _, _⟩ | ⟨r, n, hr, q1, q2, _⟩
        · rw [q1]
          cases hb : L[i]'(by lia) with
          | false => rfl
          | true =>
            have := hL.2 i (by rw [eb, hb])
            rw [Lof_at et, q1] at this
            rw [show longOf g (-1) = false from rfl] at this
            cases this
        · rw [q1, longOf_nat]
          cases hb : L[i]'(by lia) with
          | true =>
            rw [hyes r hr ⟨i, by rw [List.getElem?_map, et, Option.map_some, q1], by rw [eb, hb]⟩]; rfl
          | false =>
            rw [hno r hr fun ⟨j, hj1, hj2⟩ => ?_]; rfl
            have : j = i := uniq_of nd (v := (r : Int)) (by simp) hj1 (by rw [List.getElem?_map, et, Option.map_some, q1])
            subst this
            rw [eb, hb] at hj2; cases hj2
      · rw [List.getElem?_eq_none (by rw [Lof, List.length_map]; exact hi), List.getElem?_eq_none (by lia)]
    · rcases Classical.em (has r) with q | q
      · obtain ⟨i, h1, h2⟩ := q
        rw [hyes r hr ⟨i, h1, h2⟩]
        have h3 := hL.2 i h2
        rw [List.getElem?_map] at h1
        obtain ⟨t, ht, e⟩ := Option.map_eq_some_iff.mp h1
        rw [Lof_at ht, e, longOf_nat] at h3
        have : atI g r = 1 := by simpa using h3
        lia
      · rw [hno r hr q]
        rcases gg.bit r hr with e | e <;> lia
  -- the rank of a branch
  have rank : ∀ (i : Nat) op n, (T.map (·.1))[i]? = some (.num op n) → isBrN op = true → ∃ r : Nat, r < k ∧ T[i]? = some (Ins.num op n, (r : Int)) := by
    intro i op n hx hb
    obtain ⟨t, ht, e⟩ := tab_at hx
    rcases rows _ (List.mem_of_getElem? ht) with ⟨_, q2, _⟩ | ⟨r, n', hr, q1, q2, _⟩
    · rw [e] at q2; exact absurd (show isBrN op = false from q2) (by rw [hb]; decide)
    · exact ⟨r, hr, by rw [ht]; congr 1; exact Prod.ext e q1⟩
  refine ⟨by rw [Lof, List.length_map, List.length_map], fun L hL i op n hx hb hl hf => ?_, fun L hL hall => ?_⟩
  · obtain ⟨h, hg, rfl, hle⟩ := key L hL
    obtain ⟨r, hr, ht⟩ := rank i op n hx hb
    rw [Lof_at ht] at hl ⊢
    rw [longOf_nat] at hl ⊢
    have hz : atI h r = 0 := (hg.bit r hr).resolve_right fun q => by rw [q] at hl; cases hl
    rw [hfar h hg i r op n hr ht hz] at hf
    have := push_mono (sides := sides) (g := h) (h := g) (by rw [hl1]; exact hle) r
    rw [Gr.clo r (by lia) (by have := of_decide_eq_true hf; lia)]; rfl
  · obtain ⟨h, hg, rfl, hle⟩ := key L hL
    have hc : Closed sides spare h := by
      intro r hr hp
      rw [hl1] at hr
      refine (hg.bit r hr).resolve_left fun hz => ?_
      obtain ⟨U, V, n', e, _⟩ := rank_far La Pa hr
      rw [hT] at e
      have hU : T[U.length]? = some (Ins.num (atI ops r) n', (r : Int)) := by rw [e]; simp
      have := hall U.length (atI ops r) n' (by rw [List.getElem?_map, hU]; rfl) (La.op r hr) (by rw [Lof_at hU, longOf_nat, hz]; rfl)
      rw [hfar h hg U.length r (atI ops r) n' hr hU hz] at this
      exact absurd hp (of_decide_eq_false this)
    have hge := Gr.lst h (by rw [hl1]; exact hg) hc
    rw [hl1] at hge
    rw [Lof, Lof]
    apply List.map_congr_left
    intro t ht
    rcases rows _ ht with ⟨q1, _, _⟩ | ⟨r, n, hr, q1, _⟩
    · rw [q1]; rfl
    · rw [q1, longOf_nat, longOf_nat, show atI h r = atI g r by have := hge r hr; have := hle r hr; lia]
/-- the short branches of a closed list are near -/
theorem near_tab (La : Ladder k sides spare ops gap) (Pa : Parts k sides spare ops gap ahead far mid fk bk) {g : List Int} (gg : G01 k g) (hc : Closed sides spare g) :
    ∀ (i : Nat) op n, ((tabT k sides ops ahead far mid fk bk).map (·.1))[i]? = some (.num op n) → isBrN op = true → (Lof (tabT k sides ops ahead far mid fk bk) g)[i]? = some false →
      Mine.far ((tabT k sides ops ahead far mid fk bk).map (·.1)) (Lof (tabT k sides ops ahead far mid fk bk) g) i n = false := by
  intro i op n hx hb hl
  obtain ⟨t, ht, e⟩ := tab_at hx
  rcases tab_row La Pa _ (List.mem_of_getElem? ht) with ⟨_, q2, _⟩ | ⟨r, n', hr, q1, q2, _⟩
  · rw [e] at q2; exact absurd (show isBrN op = false from q2) (by rw [hb]; decide)
  · have ht' : (tabT k sides ops ahead far mid fk bk)[i]? = some (Ins.num op n, (r : Int)) := by rw [ht]; congr 1; exact Prod.ext e q1
    rw [Lof_at ht', longOf_nat] at hl
    have hz : atI g r = 0 := (gg.bit r hr).resolve_right fun q => by rw [q] at hl; cases hl
    rw [far_at La Pa gg hr ht' hz]
    refine decide_eq_false fun hp => ?_
    have := hc r (by rw [La.l1]; exact hr) hp
    lia
theorem layIn_tab (La : Ladder k sides spare ops gap) (Pa : Parts k sides spare ops gap ahead far mid fk bk) {g : List Int} (gg : G01 k g) :
    LayIn ((tabT k sides ops ahead far mid fk bk).map (·.1)) ((tabT k sides ops ahead far mid fk bk).map (·.2)) g (Lof (tabT k sides ops ahead far mid fk bk) g) := by
  have rows := tab_row La Pa
  refine ⟨fun x hx => ?_, by rw [Lof, List.length_map, List.length_map], fun i x hx => ?_⟩
  · obtain ⟨t, ht, rfl⟩ := List.mem_map.mp hx
    rw [List.length_map]
    exact (rows t ht).ok
  · obtain ⟨t, ht, e⟩ := tab_at hx
    refine ⟨t.2, by rw [List.getElem?_map, ht]; rfl, fun hb => ?_, fun hb => ?_⟩
    · rcases rows _ (List.mem_of_getElem? ht) with ⟨_, q2, _⟩ | ⟨r, n', hr, q1, q2, _⟩
      · rw [e, hb] at q2; cases q2
      · rw [q1]
        refine ⟨by lia, atI g r, by rw [Int.toNat_natCast]; exact atI_get (by rw [gg.len]; exact hr), ?_⟩
        rw [Lof_at ht, q1, longOf_nat]
        rcases gg.bit r hr with z | z
        · exact .inl ⟨z, by rw [z]; rfl⟩
        · exact .inr ⟨z, by rw [z]; rfl⟩
    · rcases rows _ (List.mem_of_getElem? ht) with ⟨q1, _, _⟩ | ⟨r, n', hr, q1, q2, q3, _⟩
      · rw [q1]; decide
      · rw [← e, q2] at hb; exact absurd (show isBrN (atI ops r) = false from hb) (by rw [q3]; decide)
end
theorem dat_ints (ns : List Int) : Dat 1 (.list (ns.map .int)) := .list fun x hx => by obtain ⟨n, _, rfl⟩ := List.mem_map.mp hx; exact .int 0 n
theorem Dat.up {n : Nat} {m : MV} (h : Dat n m) : Dat (n + 1) m := by
  induction h with
  | int n i => exact .int _ i
  | bytes n b => exact .bytes _ b
  | tup _ ih => exact .tup ih
  | list _ ih => exact .list ih
theorem dat_ins (x : Ins) : Dat 2 x.mv := by
  cases x with
  | num op n => exact .tup fun y hy => by simp at hy; rcases hy with rfl | rfl <;> exact .int _ _
  | sw gs => exact .tup fun y hy => by
               simp at hy
               rcases hy with rfl | rfl
               · exact .int _ _
               · exact .tup fun z hz => by obtain ⟨n, _, rfl⟩ := List.mem_map.mp hz; exact .int _ n
theorem dat_code (cs : List Ins) : Dat 3 (.list (cs.map Ins.mv)) := .list fun x hx => by obtain ⟨n, _, rfl⟩ := List.mem_map.mp hx; exact dat_ins n
theorem dat_got (b : Array UInt8) (os : List Int) : ∀ x ∈ [MV.bytes b, .list (os.map .int)], Dat 3 x := by
  intro x hx; simp at hx; rcases hx with rfl | rfl
  · exact .bytes _ b
  · exact (dat_ints os).up.up
theorem dat_dec (cs : List Ins) (os : List Int) : ∀ x ∈ [MV.list (cs.map Ins.mv), .list (os.map .int)], Dat 3 x := by
  intro x hx; simp at hx; rcases hx with rfl | rfl
  · exact dat_code cs
  · exact (dat_ints os).up.up
theorem settles_nil : Settles [] [] := ⟨rfl, fun L _ i op n h => by simp at h, fun L h _ => by
  have := h.1
  exact List.eq_nil_of_length_eq_zero this⟩
theorem law_facts {k : Nat} {sides spare ops : List Int} {gap : Int} {ahead far mid : List Ins} {fk bk : Nat → Nat} (La : Ladder k sides spare ops gap) (Pa : Parts k sides spare ops gap ahead far mid fk bk) :
    ∃ (cs : List Ins) (rk : List Int) (Lf : List Int → List Bool), codeOf k sides ops ahead far mid fk bk = cs ∧ ranksOf k sides ahead far mid = rk ∧ cs.length ≤ 5000 ∧
      (∀ g, G01 k g → LayIn cs rk g (Lf g) ∧ (encTo cs (Lf g) cs.length).length ≤ 5000) ∧ (∀ g, Grown sides spare g → Settles cs (Lf g)) ∧
      (∀ g, G01 k g → Closed sides spare g → ∀ (i : Nat) op n, cs[i]? = some (.num op n) → isBrN op = true → (Lf g)[i]? = some false → Mine.far cs (Lf g) i n = false) := by
  have z : ∀ h, G01 k h → ((tabT k sides ops ahead far mid fk bk).length : Int) ≤ 5000 := fun h hg => by
    have h1 := SZ_tab La Pa hg
    have h2 := SZ_len (h := h) (c := (tabT k sides ops ahead far mid fk bk).length) fun t ht => (tab_row La Pa t ht).ok
    lia
  have g0 : G01 k (List.replicate k (0 : Int)) := ⟨by simp, fun r hr => .inl (by simp [atI, List.getD_eq_getElem?_getD, hr])⟩
  refine ⟨_, _, Lof (tabT k sides ops ahead far mid fk bk), tab_cs.symm, (tab_rk (ops := ops) (fk := fk) (bk := bk)).symm, ?_, fun g hg => ⟨layIn_tab La Pa hg, ?_⟩, fun g Gr => settles_tab La Pa Gr, fun g hg hc => near_tab La Pa hg hc⟩
  · rw [List.length_map]; have := z _ g0; lia
  · have H := layIn_tab La Pa hg
    have e := off_tab g (T := tabT k sides ops ahead far mid fk bk) (U := tabT k sides ops ahead far mid fk bk) (V := []) (by simp)
    have e2 := offAt_eq H.ok H.len (i := ((tabT k sides ops ahead far mid fk bk).map (·.1)).length) (Nat.le_refl _)
    have h1 := SZ_tab La Pa hg
    rw [List.length_map] at e2 ⊢
    lia
theorem ones01 (k : Nat) : G01 k (List.replicate k (1 : Int)) := ⟨by simp, fun r hr => .inr (by simp [atI, List.getD_eq_getElem?_getD, hr])⟩
section
variable {prog : Program} {w : World} {h₀ : Heap} {d : Nat} {σ : List Res} {P : MV → List Res → Prop}
theorem C_Tokens (X : X0 w h₀) (h : ∀ x r1 r2 r3, P (.ref x) (r1 :: r2 :: r3 :: σ)) : CALL prog w h₀ (d + 2) σ (.ext (.ref 228)) [] P := by
  refine CALL_cls X.K (cls_Tokens _) (tk_init _) (tk_f204 _) (fn_Tokens___init__ X) X.lim rfl [Str.ofString "self"] [] _ gnil rfl (bind_Tokens___init__ _) (by kernel_rfl) ?_
  intro x dx
  (intro L; (conv in (fnBody _) => whnf); (conv in (loc0 _ _ _) => simp only [loc0, List.map_cons, List.map_nil, List.zip_cons_cons, List.zip_nil_left, List.nil_append, List.cons_append]))
  walk_at "w"
  refine EV_dict0 X.sm fun D1 => ?_
  refine zk _ _ ?_
  refine AS_attr ?_
  walk_at "w"
  refine SETA_inst X.K (cls_Tokens _) (tk_t1 _) (.tail .head) (show 0 < 1000 by decide) ?_
  walk_at "w"
  refine EV_dict0 X.sm fun D2 => ?_
  refine zk _ _ ?_
  refine AS_attr ?_
  walk_at "w"
  refine SETA_inst X.K (cls_Tokens _) (tk_t2 _) (.tail (.tail .head)) (show 1 < 1000 by decide) ?_
  walk_at "w"
  exact ⟨rfl, h x _ _ _⟩
noncomputable abbrev wL (sc : List Int) (o1 o2 o3 o4 o5 o6 o7 o8 o9 : Option MV) : Loc := [(Str.ofString "script", some (.list (sc.map .int))), (Str.ofString "nums", o1), (Str.ofString "size", o2), (Str.ofString "at", o3), (Str.ofString "tokens", o4), (Str.ofString "ladder", o5), (Str.ofString "code", o6), (Str.ofString "ranks", o7), (Str.ofString "want", o8), (Str.ofString "got", o9)]
theorem C_law (X : X0 w h₀) {m : MV} {ns : List Int} (I : ∀ σ, SL h₀ σ m (ns.map .int)) (h : ∀ σ', P (.bool true) σ') : CALLc prog w h₀ (d + 7) [] (.ext (.ref 502)) [m] P := by
  refine CALLc_fnL (fn_law X) X.lim rfl [Str.ofString "script"] [Str.ofString "nums", Str.ofString "size", Str.ofString "at", Str.ofString "tokens", Str.ofString "ladder", Str.ofString "code", Str.ofString "ranks", Str.ofString "want", Str.ofString "got"] _ (gcons (g_len X) (gcons (g_Tokens X) (gcons (g_encode X) (gcons (g_decode X) (gcons (g__law_ladder X) (gcons (g__law_code X) (gcons (g__law_lay X) (gcons (g__law_grown X) (gcons (g__law_draw X) gnil))))))))) rfl (bind_law _) (by kernel_rfl) ?_
  walk_at "start"
  refine XVc_cons (X1c_of ?_)
  refine X1_assign ?_ (by with_unfolding_all rfl) (by with_unfolding_all rfl) (by with_unfolding_all rfl)
  refine EV_slice_upto (b := 40) (xs := ns.map .int) ?_
  walk_at "w"
  refine ⟨rfl, I _, fun D => ?_⟩
  rw [← List.map_take]
  walk_at "w"
  refine Cnc_next ?_
  refine XVc_freeze (.refl _) (.list D _) (by walk_at "frz") ?_
  refine XVc_cons (X1c_of ?_)
  have hl : (ns.take 40).length ≤ 40 := by rw [List.length_take]; lia
  generalize ns.take 40 = sc at hl
  refine X1_comp (cl := []) (cap := []) (γc := []) (xs := sc.map .int) ?_ (fun i ys τ => ys = ((sc.take i).map fun n => n % 999983).map .int ∧ τ = []) ?_ ?_ ?_ (by with_unfolding_all rfl) (by intro _; rfl)
  · walk_at "compok"
    exact all_nil
  · walk_at "w"
    exact ⟨.list _, by rw [List.length_map]; unfold sizeLine; lia, rfl, rfl⟩
  · rintro C K i m ys τ hm hy ⟨rfl, rfl⟩
    obtain ⟨x, hx, rfl⟩ := map_get hm
    refine TSTS_nil ?_
    walk_at "w"
    refine BIN_mod (by decide) ?_
    rw [fm (by decide)]
    exact ⟨by rw [List.take_add_one, hx, Option.toList_some, List.map_append, List.map_append]; rfl, rfl⟩
  rintro D1 ys τ ⟨rfl, rfl⟩
  rw [show (sc.map MV.int).length = sc.length from List.length_map _, List.take_length]
  refine ⟨_, by walk_at "upd", Cnc_next ?_⟩
  refine XVc_cons (X1c_of ?_)
  walk_at "w"
  refine Cnc_next (XVc_cons (X1c_of (X1_mono (P := fun fl ρ τ => fl = .next ∧ ∃ (a : Addr) (ns' : List Int) (o2 : Int), 1 ≤ ns'.length ∧ ns'.length ≤ 1000 ∧ ρ = wL sc (some (.ref a)) (some (.int o2)) none none none none none none none ∧ ∃ junk, τ = .list a (ns'.map .int) :: junk) ?_ ?_)))
  · walk_at "w"
    · refine EV_list ?_
      walk_at "w"
      intro a
      walk_at "w"
      exact ⟨rfl, a, [0, 0, 0, 0, 1, 2, 2, 0, 1, 13, 1, 2, 5, 11, 5, 19, 1, 3, 5, 1], _, by decide, by decide, rfl, _, rfl⟩
    · rename_i hc
      refine ⟨rfl, D1, sc.map fun n => n % 999983, _, ?_, ?_, rfl, _, rfl⟩
      · simp only [List.length_map] at hc ⊢
        lia
      · rw [List.length_map]; lia
  rintro fl ρ τ ⟨rfl, a, nm, size, h1, h2, rfl, junk, rfl⟩
  refine Cnc_next (XVc_freeze (.refl _) (.list a _) (by walk_at "frz") ?_)
  refine XVc_cons (X1c_of ?_)
  walk_at "w"
  refine EV_list ?_
  walk_at "w"
  intro A
  walk_at "w"
  refine Cnc_next (XVc_cons (X1c_of ?_))
  walk_at "w"
  refine EV_call0 (Kp_cls X (kp_Tokens _)) (EV_glob (by walk_at "mem") ⟨rfl, ?_⟩)
  refine C_Tokens X fun tk r1 r2 r3 => ?_
  walk_at "w"
  refine Cnc_next (XVc_forget (XVc_forget (XVc_forget ?_)))
  refine XVc_cons (X1c_if (TEc_or (TEc_compare (EVc_callG (by walk_at "mem") (by walk_at "kp") ?_))))
  refine EVs_cons (EV_listF (EVs_nil ⟨by decide, ?_⟩)) (by intro _; with_unfolding_all rfl)
  walk_at "w"
  refine C_encode (cs := []) (G := []) X (by decide) (fun x hx => (nomatch hx)) settles_nil (by decide) ?_
  walk_at "w"
  refine EV_listF ?_
  walk_at "w"
  refine CMP_ne_tup (dat_got _ [0]) (by decide) ?_
  walk_at "w"
  refine C_decode (cs := []) (L := []) X (by decide) (fun x hx => (nomatch hx)) rfl (by decide) (fun i op n hx => by simp at hx) ?_
  walk_at "w"
  refine EV_listF ?_
  walk_at "w"
  refine EV_listF ?_
  walk_at "w"
  refine CMP_ne_tup (dat_dec [] [0]) (by decide) ?_
  walk_at "w"
  refine XVc_nil (Cnc_next ?_)
  refine XVc_cons (X1c_of ?_)
  walk_at "w"
  refine C_ladder (d := d + 4) (i := 0) X h1 h2 (by decide) fun k sides spare ops gap j hj La => ?_
  walk_at "w"
  refine Cnc_next (XVc_cons (X1c_of ?_))
  walk_at "w"
  have hgb := goal_bounds La
  refine C_code (d := d + 3) X h1 h2 (by walk_at "om") La hgb fun ahead far mid fk bk j2 hj2 Pa => ?_
  walk_at "w"
  obtain ⟨cs, rk, Lf, e1, e2, hz, fL, fS, fN⟩ := law_facts La Pa
  rw [e1, e2]
  have l1 := La.l1
  have k10 := La.k10
  refine Cnc_next (XVc_cons (X1c_of ?_))
  walk_at "w"
  refine C_grown (d := d + 5) X (by walk_at "om") (by rw [La.l2, l1]) fun Dg g Gr => ?_
  have gg := Gr.g01
  rw [l1] at gg
  obtain ⟨H, hB⟩ := fL g gg
  walk_at "w"
  refine C_lay (d := d + 3) (lg := g) X (IsL.at (by walk_at "mem")) (by walk_at "om") H (by walk_at "om") ?_
  walk_at "w"
  refine Cnc_next (XVc_forget ?_)
  refine XVc_cons (X1c_assign (EVc_callG (by walk_at "mem") (by walk_at "kp") ?_) (by with_unfolding_all rfl) (by with_unfolding_all rfl) (by with_unfolding_all rfl))
  walk_at "w"
  refine C_encode X (by walk_at "om") H.ok (fS g Gr) (by walk_at "om") ?_
  walk_at "w"
  refine Cnc_next ?_
  refine XVc_cons (X1c_if (TEc_of ?_))
  walk_at "w"
  refine CMP_ne_tup (dat_got _ _) (by decide) ?_
  walk_at "w"
  refine C_decode X (by walk_at "om") H.ok H.len (by walk_at "om") (fN g gg Gr.clo) ?_
  walk_at "w"
  refine CMP_ne_tup (dat_dec cs _) (by decide) ?_
  walk_at "w"
  refine XVc_nil (Cnc_next ?_)
  refine XVc_of ?_
  walk_at "w"
  refine C_draw (d := d + 5) X h1 h2 (by walk_at "om") (by decide) fun r hr0 hr1 => ?_
  walk_at "w"
  · exact h _
  refine EV_listF ?_
  walk_at "w"
  refine BIN_mull .frozen (by lia) fun Do => ?_
  rw [l1, Int.toNat_natCast, show List.replicate k (MV.int 1) = (List.replicate k (1 : Int)).map .int by simp]
  obtain ⟨H1, hB1⟩ := fL _ (ones01 k)
  walk_at "w"
  refine C_lay (d := d + 3) X (IsL.at (by walk_at "mem")) (by walk_at "om") H1 (by walk_at "om") ?_
  walk_at "w"
  refine C_decode X (by walk_at "om") H1.ok H1.len (by walk_at "om") (fun i op n hx hb hl => ?_) ?_
  · obtain ⟨rv, _, hbr, _⟩ := H1.rn i _ hx
    obtain ⟨_, lv, hlv, hq⟩ := hbr hb
    have : lv = 1 := by
      have := List.mem_of_getElem? hlv
      exact (List.mem_replicate.mp this).2
    rcases hq with ⟨q, _⟩ | ⟨_, q⟩
    · lia
    · rw [q] at hl; cases hl
  walk_at "w"
  refine CMP_eq_dat (.tup (dat_dec cs _)) (by decide) ?_
  exact zk _ _ (h _)
end
end Mine
open PySem PySem.W PySem.Calls PyProof.Rows
set_option Elab.async false
set_option maxRecDepth 100000
set_option maxHeartbeats 2000000
set_option linter.unusedVariables false
noncomputable section
namespace Mine
open Mine.Hd
/-! the top: a call from the one clean context -/
theorem ends_C {prog : Program} {w : World} {t : Sem Fin} {s : Shared} {R : Result → Shared → Prop} (hreg : s.asleep)
    (h : wpC (model prog w) callerA t (fun fin s' => ∃ f, fin = .done f ∧ (R (.ok f) s' ∧ leftWithCleanup s'.gens = false)) s) :
    ∃ n r s' s'', runN (denote table) prog w n s ⟨t, .builtin "claim.caller" {}, default, []⟩ = .halted (outcomeOf r) s' ∧
      schedN (denote table) prog w n (.single s ⟨t, .builtin "claim.caller" {}, default, []⟩) = .halted (outcomeOf r) s' ∧ s'.forget = s''.forget ∧ R r s'' := by
  have one := h ⟨.builtin "claim.caller" {}, none, none, [], none⟩ default caller_in (by decide +kernel) (fun x hx => absurd hx List.not_mem_nil)
  have two : Sem.wp (model prog w) ⟨.builtin "claim.caller" {}, none, none, [], none⟩ t (Sem.finPost (model prog w) ⟨.builtin "claim.caller" {}, none, none, [], none⟩ fun r s' => R r s' ∧ leftWithCleanup s'.gens = false) (fun e _ s' => R (.error e) s' ∧ leftWithCleanup s'.gens = false) default s := by
    refine Sem.wp_mono _ _ _ (fun fin p' s' q => ?_) (fun _ _ _ q => q.elim) _ _ one
    obtain ⟨f, rfl, hf⟩ := q
    exact hf
  obtain ⟨n, r, s₁, s₂, hs, hn, hfo, hR⟩ := wp_halts_full (M := model prog w) (R := R) hreg two
  exact ⟨n, r, s₂, s₁, hn, hs, hfo, hR⟩
/-- a call laid from the clean context ends well -/
theorem from_C {c : ClaimW} {tree : List Value → Sem Fin} {w : World} {s : Shared} {free : Addr → Prop} {gens : Prop} {kept : Heap → Prop} (hz : s.asleep) (hgens : s.gens = #[])
    (spec : ∀ args, c.pre args = true → WData.layableAll args = true → ∀ ord : List DictEntry → List DictEntry, (∀ l, (ord l).Perm l) →
      ∃ vs s₁, layAllW c.records (classAt s.heap) w.params ord args s = some (vs, s₁) ∧
        wpC (model c.prog w) callerA (tree vs) (fun fin s' => ∃ f, fin = .done f ∧ (c.Ends s args vs s₁ (.ok f) s' ∧ s'.os = s.os ∧ AllBare s'.gens ∧ kept s'.heap)) s₁) :
    c.CallFrom (fun vs => ⟨tree vs, .builtin "claim.caller" {}, default, []⟩) w free gens kept s := by
  intro args hpre hlay ord hord
  obtain ⟨vs, s₁, hlaid, code⟩ := spec args hpre hlay ord hord
  have rest := layAllW_rest _ _ _ hlaid
  obtain ⟨n, r, s', s'', hrun, hsched, same, ends, eos, ek⟩ := ends_C (prog := c.prog) (w := w) (t := tree vs) (s := s₁) (R := fun r s' => c.Ends s args vs s₁ r s' ∧ s'.os = s.os ∧ kept s'.heap)
    (Shared.asleep_of_life rest.2.2.2 hz) (wpC_mono code fun fin s' ⟨f, e, h1, h2, h3, h4⟩ => ⟨f, e, ⟨h1, h2, h4⟩, leftWithCleanup_false_of_bare h3⟩)
  obtain ⟨eh, _, _, eo, _⟩ := Shared.forget_eq same
  have ends := ends.congr eh
  rw [← eh] at ek
  rw [← eo] at eos
  have life : s'.heap.life = s.heap.life := (runN_life _ _ _ hrun).trans rest.2.2.2
  refine ⟨vs, s₁, hlaid, n, _, s', hsched, ?_, fun _ i x hx => by rw [hgens] at hx; simp at hx, ek, by rw [life], Shared.rest_eq eos⟩
  rcases ends with ⟨v, rfl, a1, a2, a3, a4, a5⟩ | ⟨e, ob, cls, rfl, a1, a2, a3, a4, a5⟩
  · exact .inl ⟨v, rfl, a1, a2, a3, fun b o y _ => a4 b o y, a5⟩
  · exact .inr ⟨e, ob, cls, rfl, a1, a2, a3, a4, fun b o y _ => a5 b o y⟩
abbrev XT : (Str → Option Value) → Heap → Prop := fun _ _ => True
abbrev WalkC (q : Program) (loose : List Str) (YP : World → Heap → Prop) (r : RowW) (d : DefRec) (kwd : List (Str × Expr)) : Prop :=
  ∀ (w : World) (s₀ s₁ : Shared) (mg mb : Str → Option Value), Ground q loose r.records XT w s₀ mg mb s₁.heap → YP w s₁.heap → ∀ (a : Addr) (o : Obj) (pm cd doc dV kV : Value), s₁.heap.get? a = some o →
    o.data = .func { docDef d.name d.params d.body d.scope pm cd doc with defaults := dV, kwdefaults := kV } → s₁.heap.CodeRec cd d.name → Dflts mg s₁.heap d.params kwd dV kV → mg d.name = some (.ref a) → s₁.gens = #[] →
    ∀ (args : List WData) (vals : List Value) (as : List Addr), r.claim.pre args = true → WData.layableAll args = true → ReadsAllW r.records (classAt s₀.heap) s₁.heap vals args as → WellAll w.params s₁.heap vals args → (∀ a ∈ as, (a == sysModules) = false) →
      wpC (model r.prog w) callerA (PySem.call (.ref a) vals) (fun v s' => GoodWG r.claim (classAt s₀.heap) (ExcName.means s₀.heap) args s₁ (.ok (.ret v)) s') s₁
theorem holds_C {r : OpenRow} {q : Program} {loose : List Str} {Xt : Shared → Bool} {α : Type} {Yf : Shared → α} {Ya : World → α} {YP : World → Heap → Prop} {d : DefRec} {kwd : List (Str × Expr)} {N : Nat}
    (left : LeftO r.prog q loose Xt Yf Ya N) (hY : ∀ w s, Yf s = Ya w → YP w s.heap) (hYk : ∀ w h h', YP w h → (∀ b o, h.get? b = some o → h'.get? b = some o) → YP w h')
    (hdef : defOf q r.name = some (d, kwd)) (hp : r.prog.theDef r.name = some (d.params, d.body, d.scope)) (hk : kwWritten? d.params.kwonlyargs d.params.kw_defaults = some kwd) (hRf : ∀ s, Xt s = true → RecFacts r.records s.heap) (hwr : (!r.writes || r.records.isEmpty) = true)
    (k1 : r.wellSaid = true) (ok : (chainsOk q && opensWell r.prog && (frees r.toRowW && r.within.isEmpty)) = true) (hb : r.prog.bare) (hw : r.toRowW.promised)
    (walk : WalkC q loose YP r.toRowW d kwd) : r.Holds := by
  rw [Bool.and_eq_true, Bool.and_eq_true, Bool.and_eq_true] at ok
  obtain ⟨⟨hch, o1⟩, k5, k6⟩ := ok
  obtain ⟨hsame, hu, ha, hap, hm⟩ := frees_parts k5
  have hi := ident_freeW hu ha hap
  have hwi : r.claim.within = [] := List.isEmpty_iff.mp k6
  refine ⟨k1, hw, ⟨hb, o1, by show r.makers.map _ = []; rw [hm]; rfl⟩, hw.witness, fun w => ⟨(left.behind (XP := XT) (fun _ _ => trivial) hch w).1, fun s' hs' => ?_⟩⟩
  obtain ⟨s₀, hf, hg0, s, hT, hz, hgens, hg, G1, y⟩ := (left.behind (XP := fun mg h => XT mg h ∧ RecFacts r.records h) (fun s hs => ⟨trivial, hRf s hs⟩) hch w).2 s' hs'
  have RF := G1.X.2
  have G0 : Ground q loose [] XT w s (s.heap.nsMap mainGlobals) (s.heap.nsMap builtinsNs) s.heap := ⟨G1.T, G1.B, G1.D, G1.TE, G1.TD, G1.W, trivial, G1.cls, G1.has, G1.apart, G1.once, G1.K⟩
  have G : Ground q loose r.records XT w s _ _ s.heap := RF.ground G0
  have hgens : s.gens = #[] := Array.eq_empty_of_size_eq_zero (beq_iff_eq.mp hgens)
  refine ⟨s₀, hf, hg0, s, hT, fun n hn => ?_, RF.1, RF.2.1, from_C (c := r.claim) (tree := fun vs => do match ← nsGet mainNs r.name with
      | some f => do ret (← PySem.call f vs)
      | none => unsupported "claim.caller:no-such-global") hz hgens fun args hpre hlay ord hord => ?_⟩
  · obtain rfl : n = r.name := by split at hn <;> simp_all
    exact pinned_of_view hg G0 hdef hp hk
  · obtain ⟨⟨vs, s₁⟩, hlaid⟩ := Option.isSome_iff_exists.mp (layAllW_isSome (P := w.params) (ord := ord) G.has args r.args s (pre_splitW hpre).1)
    have keeps := layAllW_keeps _ _ _ hlaid
    have hal := layAllW_rest _ _ _ hlaid
    obtain ⟨as, hrd, hin, hold⟩ := reads_layAllW hord _ _ _ hlaid hlay s₁.heap (fun _ _ e => e)
    have Ld : Laid r.records w s s₁ args vs as := ⟨⟨ord, hord, hlaid⟩, hrd, hin, hold, keeps, hal.1.trans hgens, hal.2.2.1⟩
    have G₁ := G.keeps (fun _ _ _ x _ => x) keeps
    obtain ⟨a, o, pm, cd, doc, dV, kV, h1, h2, h3, h4, h5⟩ := G₁.fn hdef
    have main := walk w s s₁ _ _ G₁ (hYk _ _ _ (hY w s y) keeps) a o pm cd doc dV kV h2 h3 h4 h5 (defOf_name hdef ▸ h1) Ld.gens args vs as hpre hlay Ld.reads Ld.well (Ld.low G.low)
    refine ⟨vs, s₁, hlaid, wpC_bind (wpC_of (wpAny_nsGet G₁.T.g ?_))⟩
    rw [h1]
    refine wpC_bind (wpC_mono main fun v s' g => wpC_pure ⟨_, rfl, ?_⟩)
    have z := g.laid (c := r.claim) hsame hwi hi Ld
    exact ⟨z.1, z.2.1, z.2.2, fun _ => ⟨namesKept_of hT hg _ keeps g.2.1.old, noTable hwr ‹_›⟩⟩
end Mine
end
open PySem PySem.W PySem.Calls PyProof.Rows
set_option Elab.async false
set_option maxRecDepth 100000
set_option maxHeartbeats 8000000
set_option linter.unusedVariables false
set_option pp.deepTerms false
set_option pp.maxSteps 3000
noncomputable section
namespace Mine.Hd
def says_ (w : World) (h : Heap) : Prop := (KL w.params).In h
theorem hY_ : ∀ w s, obs_ s = val_ w → says_ w s.heap := fun w s e => Frag.in_of (as := as_) (by kernel_rfl) e
theorem hYk_ : ∀ w h h', says_ w h → (∀ b o, h.get? b = some o → h'.get? b = some o) → says_ w h' := fun _ _ _ x k => Frag.In.keeps x k
theorem walk_ : WalkC q_ loose_ says_ PySem.Challenge.rw_xm0288_01.row.toRowW ⟨"law", fnArgs (st 88), fnBody (st 88), fnScope (st 88), (st 88).pos⟩ [] := by
  intro w s₀ s₁ mg mb G Y fa o pm cd doc dV kV ho hd hcd hD hmg hg args vals as hpre hlay hrd hwl hlo
  refine Ground.open G ?_
  intro T B D TE TW
  wrow_args hpre hlay hrd hwl hlo
  rename_i ns hs hlay0 hL1 hr1 hl2 a4 a3 l vs a0 hL ra w1 r0 hI hr hc hc2
  have X : X0 w s₁.heap := ⟨Y, T.nolimit⟩
  have hfa : Value.ref fa = .ref 502 := by
    obtain ⟨o', es', ep', h1, h2, h3, h4⟩ := T.g
    rw [at3 X] at h1
    obtain rfl := Option.some.inj h1
    have h5 : es' = es3 w.params := by rw [es3, esOf, h2]
    have h6 : nsFind (es3 w.params) (Str.ofString "law") = some (.ref 502) := by kernel_rfl
    have h7 := h4 (Str.ofString "law")
    rw [h5, h6] at h7
    exact Option.some.inj (hmg.symm.trans h7.symm)
  rw [hfa]
  have hlen : vs.length ≤ sizeLine := by
    rw [(ints_reps (Φ := s₁.heap.get?) hI).length, List.length_map]; unfold sizeLine; lia
  have main := C_law (prog := PySem.Challenge.rw_xm0288_01.row.prog) (w := w) (d := 3) (P := fun m _ => m = .bool true) X (m := .ref l) (ns := ns) (fun σ Φ F h u base rel r => by
    obtain rfl := r.inv_ref
    obtain ⟨o1, k1, k2⟩ := hL
    exact ⟨l, vs, rfl, ⟨o1, rel.le _ _ (base _ _ k1), k2⟩, hlen, ints_reps hI⟩) (fun _ => rfl)
  refine main callerA s₁ s₁.heap.get? [] _ [.ref 502, .ref l] ⟨⟨rfl, by decide +kernel, by decide +kernel, rfl⟩, fun _ _ e => e, ⟨fun _ _ e => e, List.nodup_nil, fun a ha => absurd ha List.not_mem_nil, fun a ha => absurd ha List.not_mem_nil, fun r hr => absurd hr List.not_mem_nil⟩⟩ (.cons (.ext _) (.cons (.ref l) .nil)) ?_
  rintro v m σ' Φ' h' tk le rel rep rfl
  obtain rfl := rep.inv_bool
  refine ⟨.inl ⟨.bool true, .bool true, [], rfl, fun cls => by rfl, .bool true, ?_, fun hu => ?_⟩, .of_keep fun b o e => rel.le _ _ (le _ _ e), rfl, .of_eq hg⟩
  · first | rfl | kernel_rfl | with_unfolding_all rfl
  · exact ⟨List.nodup_nil, fun a ha => absurd ha List.not_mem_nil⟩
theorem top_holds : PySem.Challenge.rw_xm0288_01.Holds := by
  w_on
  refine holds_law Mine.Sd.said fun said => ?_
  refine holds_C (r := PySem.Challenge.rw_xm0288_01.row) (q := q_) (loose := loose_) (Xt := Xt_) (Yf := obs_) (Ya := val_) (YP := says_) (N := NN) left hY_ hYk_ (by rfl) (by rfl) (by rfl) (fun s e => recFacts_of (by rfl)) (by rfl) (by assumption) (by decide +kernel) ⟨rfl, rfl, rfl, rfl, rfl, by decide +kernel⟩ ?hw walk_
  case hw => w_witness2
end Mine.Hd
end
theorem PySem.Challenge.cw_xm0288_01_holds : PySem.Challenge.rw_xm0288_01.Holds :=
  Mine.Hd.top_holds
